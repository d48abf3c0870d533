import PyProof.Rows.All
import Wide.All
import OpenK.AllK
import Wide.FinOn
import KE.KStateDown
import Lean
import HandS.Base
import HandS.Call
import HandS.Ends
import HandS.More
import HandS.Words
import HandS.WordsExc
import HandS.Defaults
import HandS.Head0
import HandS.Head1
import HandS.Head2
import HandS.HeadEnd
import HandS.HeadHook1
import HandS.HeadHook2
import PySem.Challenge.RW_mountedintime_k62_whole_wear_at_sizes
import KE.DataCmp
import KE.DataMinMax
import KE.SortData
import HandS.ForMost
import HandS.Flow
import HandS.Style
import HandS.IsInst
import HandS.TupAny
import HandS.TupLe
import HandS.Wide
import KE.KDictKeyed
import KE.KDictWalk
import KE.DataFind
import HandS.SetFor
import HandS.Strs
import KE.KIndexOf
import HandS.Iter
import HandS.Zip
import KE.KStar
import KE.GoesEnum
import HandS.TupMul
import PyProof.ReprRoads
import PyProof.CallFns
import KE.KDictDisplayH
import HandS.TupLen
import HandS.Conv
import HandS.DictComp
import HandS.Evl
set_option Elab.async false
set_option linter.all false
set_option maxRecDepth 100000
set_option maxHeartbeats 0
namespace K62H
open PySem PySem.Spec PyProof.Rows L2
def top (i : Nat) : Stmt := PySem.Challenge.pw_mountedintime_k62_whole_wear_at_sizes.main.body.getD i (.Pass ⟨0, 0, 0, 0⟩)
abbrev s_is_tuple : Stmt := top 1
abbrev s_is_whole : Stmt := top 2
abbrev s_is_integer : Stmt := top 3
abbrev s_is_rising : Stmt := top 4
abbrev s_is_copy : Stmt := top 16
abbrev s_check_wear : Stmt := top 17
abbrev s_is_choice : Stmt := top 18
abbrev s_loads : Stmt := top 19
abbrev s_reached : Stmt := top 20
abbrev s_moved : Stmt := top 21
abbrev s_better : Stmt := top 22
abbrev s_even_of : Stmt := top 23
abbrev s_even_choice : Stmt := top 24
abbrev s_is_even : Stmt := top 25
abbrev s_chain : Stmt := top 26
abbrev s_lot_for : Stmt := top 27
abbrev s_least_wear : Stmt := top 28
abbrev s_asks_for : Stmt := top 29
abbrev s_check_lot : Stmt := top 30
abbrev s_needs : Stmt := top 31
abbrev s_shows_least : Stmt := top 32
abbrev s__law_pot : Stmt := top 34
abbrev s__law_take : Stmt := top 35
abbrev s__law_of : Stmt := top 36
abbrev s__law_places : Stmt := top 37
abbrev s__law_some : Stmt := top 38
abbrev s__law_loads : Stmt := top 39
abbrev s__law_drawn : Stmt := top 40
abbrev s__law_room : Stmt := top 41
abbrev s__law_right : Stmt := top 42
abbrev s_law : Stmt := top 43
def d_is_tuple : He.DefD := ⟨("is_tuple", none), "is_tuple", "is_tuple", defArgs s_is_tuple, defBody s_is_tuple, defScope s_is_tuple, [], []⟩
def d_is_whole : He.DefD := ⟨("is_whole", none), "is_whole", "is_whole", defArgs s_is_whole, defBody s_is_whole, defScope s_is_whole, [], []⟩
def d_is_integer : He.DefD := ⟨("is_integer", none), "is_integer", "is_integer", defArgs s_is_integer, defBody s_is_integer, defScope s_is_integer, [], []⟩
def d_is_rising : He.DefD := ⟨("is_rising", none), "is_rising", "is_rising", defArgs s_is_rising, defBody s_is_rising, defScope s_is_rising, [], []⟩
def d_is_copy : He.DefD := ⟨("is_copy", none), "is_copy", "is_copy", defArgs s_is_copy, defBody s_is_copy, defScope s_is_copy, [], []⟩
def d_check_wear : He.DefD := ⟨("check_wear", none), "check_wear", "check_wear", defArgs s_check_wear, defBody s_check_wear, defScope s_check_wear, [], []⟩
def d_is_choice : He.DefD := ⟨("is_choice", none), "is_choice", "is_choice", defArgs s_is_choice, defBody s_is_choice, defScope s_is_choice, [], []⟩
def d_loads : He.DefD := ⟨("loads", none), "loads", "loads", defArgs s_loads, defBody s_loads, defScope s_loads, [], []⟩
def d_reached : He.DefD := ⟨("reached", none), "reached", "reached", defArgs s_reached, defBody s_reached, defScope s_reached, [], []⟩
def d_moved : He.DefD := ⟨("moved", none), "moved", "moved", defArgs s_moved, defBody s_moved, defScope s_moved, [], []⟩
def d_better : He.DefD := ⟨("better", none), "better", "better", defArgs s_better, defBody s_better, defScope s_better, [], []⟩
def d_even_of : He.DefD := ⟨("even_of", none), "even_of", "even_of", defArgs s_even_of, defBody s_even_of, defScope s_even_of, [], []⟩
def d_even_choice : He.DefD := ⟨("even_choice", none), "even_choice", "even_choice", defArgs s_even_choice, defBody s_even_choice, defScope s_even_choice, [], []⟩
def d_is_even : He.DefD := ⟨("is_even", none), "is_even", "is_even", defArgs s_is_even, defBody s_is_even, defScope s_is_even, [], []⟩
def d_chain : He.DefD := ⟨("chain", none), "chain", "chain", defArgs s_chain, defBody s_chain, defScope s_chain, [], []⟩
def d_lot_for : He.DefD := ⟨("lot_for", none), "lot_for", "lot_for", defArgs s_lot_for, defBody s_lot_for, defScope s_lot_for, [], []⟩
def d_least_wear : He.DefD := ⟨("least_wear", none), "least_wear", "least_wear", defArgs s_least_wear, defBody s_least_wear, defScope s_least_wear, [], []⟩
def d_asks_for : He.DefD := ⟨("asks_for", none), "asks_for", "asks_for", defArgs s_asks_for, defBody s_asks_for, defScope s_asks_for, [], []⟩
def d_check_lot : He.DefD := ⟨("check_lot", none), "check_lot", "check_lot", defArgs s_check_lot, defBody s_check_lot, defScope s_check_lot, [], []⟩
def d_needs : He.DefD := ⟨("needs", none), "needs", "needs", defArgs s_needs, defBody s_needs, defScope s_needs, [], []⟩
def d_shows_least : He.DefD := ⟨("shows_least", none), "shows_least", "shows_least", defArgs s_shows_least, defBody s_shows_least, defScope s_shows_least, [], []⟩
def d__law_pot : He.DefD := ⟨("_law_pot", none), "_law_pot", "_law_pot", defArgs s__law_pot, defBody s__law_pot, defScope s__law_pot, [], []⟩
def d__law_take : He.DefD := ⟨("_law_take", none), "_law_take", "_law_take", defArgs s__law_take, defBody s__law_take, defScope s__law_take, [], []⟩
def d__law_of : He.DefD := ⟨("_law_of", none), "_law_of", "_law_of", defArgs s__law_of, defBody s__law_of, defScope s__law_of, [], []⟩
def d__law_places : He.DefD := ⟨("_law_places", none), "_law_places", "_law_places", defArgs s__law_places, defBody s__law_places, defScope s__law_places, [], []⟩
def d__law_some : He.DefD := ⟨("_law_some", none), "_law_some", "_law_some", defArgs s__law_some, defBody s__law_some, defScope s__law_some, [], []⟩
def d__law_loads : He.DefD := ⟨("_law_loads", none), "_law_loads", "_law_loads", defArgs s__law_loads, defBody s__law_loads, defScope s__law_loads, [], []⟩
def d__law_drawn : He.DefD := ⟨("_law_drawn", none), "_law_drawn", "_law_drawn", defArgs s__law_drawn, defBody s__law_drawn, defScope s__law_drawn, [], []⟩
def d__law_room : He.DefD := ⟨("_law_room", none), "_law_room", "_law_room", defArgs s__law_room, defBody s__law_room, defScope s__law_room, [], []⟩
def d__law_right : He.DefD := ⟨("_law_right", none), "_law_right", "_law_right", defArgs s__law_right, defBody s__law_right, defScope s__law_right, [], []⟩
def d_law : He.DefD := ⟨("law", none), "law", "law", defArgs s_law, defBody s_law, defScope s_law, [], []⟩
def fn : List He.DefD := [d_is_tuple, d_is_whole, d_is_integer, d_is_rising, d_is_copy, d_check_wear, d_is_choice, d_loads, d_reached, d_moved, d_better, d_even_of, d_even_choice, d_is_even, d_chain, d_lot_for, d_least_wear, d_asks_for, d_check_lot, d_needs, d_shows_least, d__law_pot, d__law_take, d__law_of, d__law_places, d__law_some, d__law_loads, d__law_drawn, d__law_room, d__law_right, d_law]
def fa0 : List He.Fa := [.glo "is_tuple", .glo "is_whole", .glo "is_integer", .glo "is_rising", .glo "is_copy", .glo "check_wear", .glo "is_choice", .glo "loads", .glo "reached", .glo "moved", .glo "better", .glo "even_of", .glo "even_choice", .glo "is_even", .glo "chain"]
def fa1 : List He.Fa := [.glo "lot_for", .glo "least_wear", .glo "asks_for", .glo "check_lot", .glo "needs", .glo "shows_least", .glo "_law_pot", .glo "_law_take", .glo "_law_of", .glo "_law_places", .glo "_law_some", .glo "_law_loads", .glo "_law_drawn", .glo "_law_room", .glo "_law_right"]
def fa2 : List He.Fa := [.glo "law", .free "abs", .free "all", .free "any", .free "bool", .free "dict", .free "enumerate", .free "int", .free "isinstance", .free "len", .free "list", .free "max", .free "min", .free "range", .free "repr"]
def fa3 : List He.Fa := [.free "set", .free "sorted", .free "str", .free "sum", .free "tuple", .free "zip", .int "MOST_TAPES" 12, .int "MOST_ASKS" 20, .int "MOST_WEAR" 1000000, .int "PAIR" 2, .int "TRIPLE" 3]
def fa : List He.Fa := fa0 ++ fa1 ++ fa2 ++ fa3
def names0 : List PySem.Str := ["is_tuple", "is_whole", "is_integer", "is_rising", "TapeError", "BadWear", "BadCopies", "BadLot", "MOST_TAPES", "MOST_ASKS", "MOST_WEAR", "PAIR", "TRIPLE", "is_copy", "check_wear"]
def names1 : List PySem.Str := ["is_choice", "loads", "reached", "moved", "better", "even_of", "even_choice", "is_even", "chain", "lot_for", "least_wear", "asks_for", "check_lot", "needs", "shows_least"]
def names2 : List PySem.Str := ["_law_pot", "_law_take", "_law_of", "_law_places", "_law_some", "_law_loads", "_law_drawn", "_law_room", "_law_right"]
def names : List PySem.Str := names0 ++ names1 ++ names2
abbrev R : PySem.W.OpenRow := PySem.W.OpenLaw.row PySem.Challenge.rw_mountedintime_k62_whole_wear_at_sizes
abbrev hk : PySem.W.Hook := He.hookD 4 fa fn
def ob (s : PySem.W.SharedT) : He.AlD := He.obsDG 4 fa fn (HandSHeadRun.getT s)
theorem ob_eq (s : PySem.W.SharedT) : ob s = hk.obs s.abs := He.obsDG_eq (HandSHeadRun.getT_eq s)
theorem run (w : World) : HandSHeadRun.RunEq R (PySem.W.view R.prog [43]) hk ob 8000 names w := by
  intro os
  kernel_rfl
end K62H


/-! K71J: tapes worn, plain. -/
namespace K71
def inc (l : List Int) (t : Nat) : List Int := l.set t (l.getD t 0 + 1)
def ld (ws : List Int) (ch : List Nat) : List Int := ch.foldl inc ws
def minL : List Int → Int
  | [] => 0
  | x :: xs => xs.foldl min x
def maxL : List Int → Int
  | [] => 0
  | x :: xs => xs.foldl max x
theorem fold_min_le : ∀ (xs : List Int) (m : Int), xs.foldl min m ≤ m ∧ ∀ x ∈ xs, xs.foldl min m ≤ x
  | [], m => ⟨Int.le_refl _, fun _ h => nomatch h⟩
  | x :: xs, m => by
    obtain ⟨h1, h2⟩ := fold_min_le xs (min m x)
    rw [List.foldl_cons]
    refine ⟨by omega, fun y hy => ?_⟩
    rcases List.mem_cons.mp hy with rfl | hy
    · omega
    · exact h2 y hy
theorem fold_min_in : ∀ (xs : List Int) (m : Int), xs.foldl min m = m ∨ xs.foldl min m ∈ xs
  | [], m => .inl rfl
  | x :: xs, m => by
    rw [List.foldl_cons]
    rcases fold_min_in xs (min m x) with h | h
    · rw [h]
      by_cases q : m ≤ x
      · rw [Int.min_eq_left q]
        exact .inl rfl
      · rw [Int.min_eq_right (by omega)]
        exact .inr List.mem_cons_self
    · exact .inr (List.mem_cons_of_mem _ h)
theorem minL_le {l : List Int} {x : Int} (h : x ∈ l) : minL l ≤ x := by
  cases l with
  | nil => cases h
  | cons y ys =>
    obtain ⟨h1, h2⟩ := fold_min_le ys y
    rcases List.mem_cons.mp h with rfl | h
    · exact h1
    · exact h2 x h
theorem minL_in {l : List Int} (h : l ≠ []) : minL l ∈ l := by
  cases l with
  | nil => exact absurd rfl h
  | cons y ys =>
    rcases fold_min_in ys y with e | e
    · show ys.foldl min y ∈ y :: ys
      rw [e]
      exact List.mem_cons_self
    · exact List.mem_cons_of_mem _ e
def am (l : List Int) : Nat := l.idxOf (minL l)
theorem am_lt {l : List Int} (h : l ≠ []) : am l < l.length := List.idxOf_lt_length_of_mem (minL_in h)
theorem am_get {l : List Int} (h : l ≠ []) : l[am l]? = some (minL l) := by
  rw [List.getElem?_eq_getElem (am_lt h)]
  exact congrArg some (List.getElem_idxOf (am_lt h))
theorem inc_len (l : List Int) (t : Nat) : (inc l t).length = l.length := by simp [inc]
theorem ld_len (ch : List Nat) : ∀ ws : List Int, (ld ws ch).length = ws.length := by
  induction ch with
  | nil => intro ws; rfl
  | cons t ch ih =>
    intro ws
    show (ld (inc ws t) ch).length = _
    rw [ih, inc_len]
theorem ld_app (ws : List Int) (ch ch' : List Nat) : ld ws (ch ++ ch') = ld (ld ws ch) ch' := by
  unfold ld
  rw [List.foldl_append]
theorem inc_get {l : List Int} {t o : Nat} (ht : t < l.length) : (inc l t).getD o 0 = l.getD o 0 + if o = t then 1 else 0 := by
  unfold inc
  rw [List.getD_eq_getElem?_getD, List.getD_eq_getElem?_getD]
  by_cases h : o = t
  · subst h
    rw [List.getElem?_set_self ht, if_pos rfl, List.getD_eq_getElem?_getD]
    rfl
  · rw [List.getElem?_set_ne (Ne.symm h), if_neg h, Int.add_zero, List.getD_eq_getElem?_getD]
theorem ld_get (o : Nat) : ∀ (ch : List Nat) (ws : List Int), (∀ t ∈ ch, t < ws.length) → (ld ws ch).getD o 0 = ws.getD o 0 + (ch.filter fun t => t == o).length
  | [], ws, _ => by simp [ld]
  | t :: ch, ws, h => by
    have ih := ld_get o ch (inc ws t) fun x hx => by
      rw [inc_len]
      exact h x (List.mem_cons_of_mem _ hx)
    show (ld (inc ws t) ch).getD o 0 = _
    rw [ih, inc_get (h t List.mem_cons_self), List.filter_cons]
    by_cases e : o = t
    · subst e
      simp
      omega
    · rw [if_neg e]
      have : (t == o) = false := by simp; omega
      rw [this]
      simp
/-- one after another the least worn -/
def grd (ws : List Int) : Nat → List Nat
  | 0 => []
  | k + 1 => grd ws k ++ [am (ld ws (grd ws k))]
def filled (ws : List Int) : Nat → List Int
  | 0 => ws
  | k + 1 => inc (filled ws k) (am (filled ws k))
theorem filled_ld (ws : List Int) : ∀ k, filled ws k = ld ws (grd ws k)
  | 0 => rfl
  | k + 1 => by
    rw [filled, grd, ld_app, ← filled_ld ws k]
    rfl
theorem grd_lt {ws : List Int} (h : ws ≠ []) : ∀ k, ∀ t ∈ grd ws k, t < ws.length
  | 0, t, ht => by cases ht
  | k + 1, t, ht => by
    rcases List.mem_append.mp ht with ht | ht
    · exact grd_lt h k t ht
    · simp at ht
      subst ht
      have hne : ld ws (grd ws k) ≠ [] := fun e => by
        have := ld_len (grd ws k) ws
        rw [e] at this
        cases ws with
        | nil => exact h rfl
        | cons _ _ => simp at this
      have := am_lt hne
      rw [ld_len] at this
      exact this
theorem grd_len (ws : List Int) : ∀ k, (grd ws k).length = k
  | 0 => rfl
  | k + 1 => by rw [grd, List.length_append, grd_len ws k]; rfl
theorem ld_ne {ws : List Int} (h : ws ≠ []) (ch : List Nat) : ld ws ch ≠ [] := fun e => by
  have := ld_len ch ws
  rw [e] at this
  cases ws with
  | nil => exact h rfl
  | cons _ _ => simp at this
/-- whoever was taken is at most by one above any -/
theorem grd_even {ws : List Int} (h : ws ≠ []) : ∀ k, ∀ t ∈ grd ws k, ∀ o, o < ws.length → (ld ws (grd ws k)).getD t 0 ≤ (ld ws (grd ws k)).getD o 0 + 1
  | 0, t, ht, _, _ => by cases ht
  | k + 1, t, ht, o, ho => by
    rw [grd, ld_app]
    have hne := ld_ne h (grd ws k)
    have hl := ld_len (grd ws k) ws
    have ha := am_lt hne
    have hg := am_get hne
    generalize hL : ld ws (grd ws k) = l at *
    show (inc l (am l)).getD t 0 ≤ (inc l (am l)).getD o 0 + 1
    rw [inc_get ha, inc_get ha]
    have hag : l.getD (am l) 0 = minL l := by rw [List.getD_eq_getElem?_getD, hg]; rfl
    have ho2 : minL l ≤ l.getD o 0 := by
      refine minL_le ?_
      rw [List.getD_eq_getElem?_getD, List.getElem?_eq_getElem (by omega)]
      exact List.getElem_mem _
    by_cases e : t = am l
    · subst e
      rw [hag, if_pos rfl]
      split <;> omega
    · rw [if_neg e]
      rcases List.mem_append.mp ht with ht | ht
      · have := grd_even h k t ht o ho
        rw [hL] at this
        split <;> omega
      · simp at ht
        rw [hL] at ht
        exact absurd ht e
/-! the least pair -/
def llt (a b : Int × Int) : Bool := if a.1 = b.1 then decide (a.2 < b.2) else decide (a.1 < b.1)
def lmin (a : Int × Int) (xs : List (Int × Int)) : Int × Int := xs.foldl (fun a y => if llt y a = true then y else a) a
theorem lmin_in : ∀ (xs : List (Int × Int)) (a : Int × Int), lmin a xs = a ∨ lmin a xs ∈ xs
  | [], a => .inl rfl
  | y :: xs, a => by
    unfold lmin
    rw [List.foldl_cons]
    rcases lmin_in xs (if llt y a = true then y else a) with h | h
    · unfold lmin at h
      rw [h]
      split
      · exact .inr List.mem_cons_self
      · exact .inl rfl
    · exact .inr (List.mem_cons_of_mem _ h)
def lle (a b : Int × Int) : Prop := a.1 < b.1 ∨ (a.1 = b.1 ∧ a.2 ≤ b.2)
theorem lmin_le : ∀ (xs : List (Int × Int)) (a : Int × Int), lle (lmin a xs) a ∧ ∀ y ∈ xs, lle (lmin a xs) y
  | [], a => ⟨.inr ⟨rfl, Int.le_refl _⟩, fun _ h => nomatch h⟩
  | y :: xs, a => by
    obtain ⟨h1, h2⟩ := lmin_le xs (if llt y a = true then y else a)
    have e : lmin a (y :: xs) = lmin (if llt y a = true then y else a) xs := rfl
    rw [e]
    generalize lmin (if llt y a = true then y else a) xs = r at *
    have key : lle (if llt y a = true then y else a) a ∧ lle (if llt y a = true then y else a) y := by
      unfold llt lle
      by_cases q : y.1 = a.1
      · by_cases q2 : y.2 < a.2 <;> simp [q, q2] <;> omega
      · by_cases q2 : y.1 < a.1 <;> simp [q, q2] <;> omega
    generalize (if llt y a = true then y else a) = c at *
    unfold lle at *
    refine ⟨by omega, fun w hw => ?_⟩
    rcases List.mem_cons.mp hw with rfl | hw
    · omega
    · exact h2 w hw
end K71

/-! WnA: even choices, plain. -/
namespace Wn
open K71
def S (T : Nat) (f : Nat → Int) : Int := ((List.range T).map f).sum
theorem S_succ (T : Nat) (f : Nat → Int) : S (T + 1) f = S T f + f T := by
  unfold S
  rw [List.range_succ, List.map_append, List.sum_append_int]
  simp
theorem S_le {f g : Nat → Int} : ∀ {T : Nat}, (∀ t, t < T → f t ≤ g t) → S T f ≤ S T g
  | 0, _ => Int.le_refl _
  | T + 1, h => by
    have := S_le (T := T) fun t ht => h t (by omega)
    have := h T (by omega)
    rw [S_succ, S_succ]
    omega
theorem S_congr {f g : Nat → Int} {T : Nat} (h : ∀ t, t < T → f t = g t) : S T f = S T g :=
  Int.le_antisymm (S_le fun t ht => Int.le_of_eq (h t ht)) (S_le fun t ht => Int.le_of_eq (h t ht).symm)
theorem S_add (f g : Nat → Int) : ∀ T, S T (fun t => f t + g t) = S T f + S T g
  | 0 => rfl
  | T + 1 => by
    rw [S_succ, S_succ, S_succ, S_add f g T]
    omega
theorem S_zero : ∀ T, S T (fun _ => 0) = 0
  | 0 => rfl
  | T + 1 => by rw [S_succ, S_zero T]; rfl
theorem S_one {a : Nat} {v : Int} : ∀ {T : Nat}, a < T → S T (fun t => if t = a then v else 0) = v
  | 0, h => absurd h (Nat.not_lt_zero _)
  | T + 1, h => by
    rw [S_succ]
    by_cases e : a = T
    · subst e
      rw [if_pos rfl, S_congr (g := fun _ => 0) fun t ht => if_neg (by omega), S_zero]
      omega
    · rw [if_neg (by omega), S_one (by omega)]
      omega
theorem S_lt {f g : Nat → Int} {T a : Nat} (h : ∀ t, t < T → f t ≤ g t) (ha : a < T) (hl : f a < g a) : S T f < S T g := by
  have h2 : S T (fun t => f t + if t = a then 1 else 0) ≤ S T g := S_le fun t ht => by
    by_cases e : t = a
    · subst e
      rw [if_pos rfl]
      omega
    · rw [if_neg e]
      have := h t ht
      omega
  rw [S_add, S_one ha] at h2
  omega
/-- of a list, place by place -/
theorem S_list (f : Int → Int) (l : List Int) : S l.length (fun t => f (l.getD t 0)) = (l.map f).sum := by
  unfold S
  congr 1
  refine List.ext_getElem (by simp) fun i h1 h2 => ?_
  simp at h1 h2 ⊢
  rw [List.getElem?_eq_getElem h1]
  rfl
/-! ### choices -/
/-- a tape for each ask, one that has it -/
structure Val (T : Nat) (cs : List (List Nat)) (ch : List Nat) : Prop where
  len : ch.length = cs.length
  mem : ∀ (i t : Nat) (c : List Nat), ch[i]? = some t → cs[i]? = some c → t ∈ c
  lt : ∀ c ∈ cs, ∀ x ∈ c, x < T
theorem Val.get {T : Nat} {cs : List (List Nat)} {ch : List Nat} (h : Val T cs ch) {i t : Nat} (e : ch[i]? = some t) : ∃ c, cs[i]? = some c ∧ t ∈ c := by
  have hi := (List.getElem?_eq_some_iff.mp e).1
  have e2 : cs[i]? = some (cs[i]'(by have := h.len; omega)) := List.getElem?_eq_getElem _
  exact ⟨_, e2, h.mem i t _ e e2⟩
theorem Val.tl {T : Nat} {cs : List (List Nat)} {ch : List Nat} (h : Val T cs ch) : ∀ t ∈ ch, t < T := fun t ht => by
  obtain ⟨i, e⟩ := List.mem_iff_getElem?.mp ht
  obtain ⟨c, e2, hm⟩ := h.get e
  exact h.lt c (List.mem_of_getElem? e2) t hm
/-- to what tapes chains lead -/
inductive Rch (cs : List (List Nat)) (ch : List Nat) (t0 : Nat) : Nat → Prop
  | refl : Rch cs ch t0 t0
  | step {t i o : Nat} {c : List Nat} : Rch cs ch t0 t → ch[i]? = some t → cs[i]? = some c → o ∈ c → Rch cs ch t0 o
theorem Rch.trans {cs : List (List Nat)} {ch : List Nat} {a b c : Nat} (h : Rch cs ch a b) (k : Rch cs ch b c) : Rch cs ch a c := by
  induction k with
  | refl => exact h
  | step _ e1 e2 hm ih => exact .step ih e1 e2 hm
theorem Rch.lt {T : Nat} {cs : List (List Nat)} {ch : List Nat} (h : Val T cs ch) {a b : Nat} (ha : a < T) (k : Rch cs ch a b) : b < T := by
  cases k with
  | refl => exact ha
  | step _ _ e2 hm => exact h.lt _ (List.mem_of_getElem? e2) _ hm
abbrev L (ws : List Int) (ch : List Nat) (t : Nat) : Int := (ld ws ch).getD t 0
/-- no chain makes it more even -/
def Even (ws : List Int) (cs : List (List Nat)) (ch : List Nat) : Prop := ∀ t o, t < ws.length → Rch cs ch t o → L ws ch t ≤ L ws ch o + 1
def cnt (ch : List Nat) (t : Nat) : Int := ((ch.filter fun x => x == t).length : Nat)
theorem L_eq {ws : List Int} {cs : List (List Nat)} {ch : List Nat} (h : Val ws.length cs ch) (t : Nat) : L ws ch t = ws.getD t 0 + cnt ch t := ld_get t ch ws h.tl
theorem cnt_cons (x : Nat) (ch : List Nat) (t : Nat) : cnt (x :: ch) t = (if t = x then 1 else 0) + cnt ch t := by
  unfold cnt
  rw [List.filter_cons]
  by_cases e : x = t
  · subst e
    simp
    omega
  · have h1 : (x == t) = false := by simpa using e
    have h2 : ¬ t = x := fun z => e z.symm
    rw [h1, if_neg h2]
    simp
theorem cnt_nonneg (ch : List Nat) (t : Nat) : 0 ≤ cnt ch t := Int.natCast_nonneg _
/-- asks on some tapes -/
theorem cnt_sum {T : Nat} (p : Nat → Bool) : ∀ {ch : List Nat}, (∀ t ∈ ch, t < T) → S T (fun t => if p t = true then cnt ch t else 0) = ((ch.filter p).length : Nat)
  | [], _ => by
    have : S T (fun t => if p t = true then cnt [] t else 0) = S T fun _ => 0 := S_congr fun t _ => by
      split <;> rfl
    rw [this, S_zero]
    rfl
  | x :: ch, h => by
    have ih := cnt_sum (T := T) p (ch := ch) fun t ht => h t (List.mem_cons_of_mem _ ht)
    have e : S T (fun t => if p t = true then cnt (x :: ch) t else 0) = S T fun t => (if t = x then (if p x = true then 1 else 0) else 0) + if p t = true then cnt ch t else 0 := S_congr fun t _ => by
      rw [cnt_cons]
      by_cases e : t = x
      · subst e
        by_cases hp : p t = true
        · simp [hp]
        · simp [hp]
      · by_cases hp : p t = true
        · simp [hp, e]
        · simp [hp, e]
    rw [e, S_add, S_one (h x List.mem_cons_self), ih, List.filter_cons]
    by_cases hp : p x = true
    · simp [hp]
      omega
    · simp [hp]
theorem filter_le {p : Nat → Bool} : ∀ {A B : List Nat}, A.length = B.length → (∀ (i a b : Nat), A[i]? = some a → B[i]? = some b → p a = true → p b = true) → (A.filter p).length ≤ (B.filter p).length
  | [], [], _, _ => Nat.le_refl _
  | [], _ :: _, h, _ => by simp at h
  | _ :: _, [], h, _ => by simp at h
  | a :: A, b :: B, h, k => by
    have ih := filter_le (p := p) (A := A) (B := B) (by simpa using h) fun i x y h1 h2 => k (i + 1) x y h1 h2
    rw [List.filter_cons, List.filter_cons]
    have k0 := k 0 a b rfl rfl
    by_cases ha : p a = true
    · rw [if_pos ha, if_pos (k0 ha)]
      simp
      omega
    · rw [if_neg ha]
      split
      · simp
        omega
      · exact ih
/-- how much is above a level -/
def over (h : Int) (ws : List Int) (ch : List Nat) : Int := S ws.length fun t => max 0 (L ws ch t - h)
open Classical in
theorem major {ws : List Int} {cs : List (List Nat)} {A B : List Nat} (vA : Val ws.length cs A) (vB : Val ws.length cs B) (hE : Even ws cs A) (h : Int) : over h ws A ≤ over h ws B := by
  let p : Nat → Bool := fun t => decide (∃ s, s < ws.length ∧ h < L ws A s ∧ Rch cs A s t)
  have hp : ∀ t, p t = true ↔ ∃ s, s < ws.length ∧ h < L ws A s ∧ Rch cs A s t := fun t => decide_eq_true_iff
  have e1 : over h ws A = S ws.length (fun t => if p t = true then (ws.getD t 0 - h) else 0) + S ws.length (fun t => if p t = true then cnt A t else 0) := by
    rw [← S_add]
    refine S_congr fun t ht => ?_
    have e := L_eq vA t
    by_cases q : p t = true
    · obtain ⟨s, s1, s2, s3⟩ := (hp t).mp q
      have := hE s t s1 s3
      simp only [q, if_true]
      omega
    · have : L ws A t ≤ h := Int.not_lt.mp fun z => q ((hp t).mpr ⟨t, ht, z, .refl⟩)
      rw [if_neg q, if_neg q]
      omega
  have e2 : S ws.length (fun t => if p t = true then (ws.getD t 0 - h) else 0) + S ws.length (fun t => if p t = true then cnt B t else 0) ≤ over h ws B := by
    rw [← S_add]
    refine S_le fun t ht => ?_
    have e := L_eq vB t
    by_cases q : p t = true
    · simp only [q, if_true]
      omega
    · rw [if_neg q, if_neg q]
      omega
  rw [cnt_sum p vA.tl] at e1
  rw [cnt_sum p vB.tl] at e2
  have e3 := filter_le (p := p) (A := A) (B := B) (by rw [vA.len, vB.len]) fun i a b ha hb q => by
    obtain ⟨s, s1, s2, s3⟩ := (hp a).mp q
    obtain ⟨c, hc, hm⟩ := vB.get hb
    exact (hp b).mpr ⟨s, s1, s2, .step s3 ha hc hm⟩
  omega
/-! ### lists by what is above each level -/
def ovL (h : Int) (l : List Int) : Int := (l.map fun x => max 0 (x - h)).sum
theorem over_list (h : Int) (ws : List Int) (ch : List Nat) : over h ws ch = ovL h (ld ws ch) := by
  have := S_list (fun x => max 0 (x - h)) (ld ws ch)
  rw [ld_len] at this
  exact this
def cgt (h : Int) (l : List Int) : Int := ((l.filter fun x => decide (h < x)).length : Nat)
theorem ov_cgt (h : Int) : ∀ l : List Int, ovL h l = ovL (h + 1) l + cgt h l
  | [] => rfl
  | x :: l => by
    have ih := ov_cgt h l
    unfold ovL cgt at *
    rw [List.map_cons, List.sum_cons, List.map_cons, List.sum_cons, List.filter_cons]
    by_cases q : h < x
    · simp [q]
      omega
    · simp [q]
      omega
theorem cgt_count (x : Int) : ∀ l : List Int, cgt (x - 1) l = cgt x l + (l.count x : Nat)
  | [] => rfl
  | y :: l => by
    have ih := cgt_count x l
    unfold cgt at *
    rw [List.filter_cons, List.filter_cons, List.count_cons]
    by_cases q : y = x
    · subst q
      have q3 : y - 1 < y := by omega
      simp [q3]
      omega
    · have q2 : (y == x) = false := by simpa using q
      by_cases q3 : x < y
      · have : x - 1 < y := by omega
        simp [q2, q3, this]
        omega
      · have : ¬ x - 1 < y := by omega
        simp [q2, q3, this]
        omega
theorem perm_of_over {l m : List Int} (h : ∀ k, ovL k l = ovL k m) : l.Perm m := by
  refine List.perm_iff_count.mpr fun x => ?_
  have e1 : ∀ k, cgt k l = cgt k m := fun k => by
    have := ov_cgt k l
    have := ov_cgt k m
    have := h k
    have := h (k + 1)
    omega
  have h1 := cgt_count x l
  have h2 := cgt_count x m
  have h3 := e1 x
  have h4 := e1 (x - 1)
  omega
/-- all even choices come to the same, sorted -/
theorem even_perm {ws : List Int} {cs : List (List Nat)} {A B : List Nat} (vA : Val ws.length cs A) (vB : Val ws.length cs B) (hA : Even ws cs A) (hB : Even ws cs B) : (ld ws A).Perm (ld ws B) := perm_of_over fun k => by
  have h1 := major vA vB hA k
  have h2 := major vB vA hB k
  rw [over_list, over_list] at h1 h2
  omega
theorem sort_perm {l m : List Int} (h : l.Perm m) : l.mergeSort (fun a b => decide (a ≤ b)) = m.mergeSort (fun a b => decide (a ≤ b)) := by
  have tr : ∀ a b c : Int, decide (a ≤ b) = true → decide (b ≤ c) = true → decide (a ≤ c) = true := fun a b c h1 h2 => by
    simp at *
    omega
  have to : ∀ a b : Int, (decide (a ≤ b) || decide (b ≤ a)) = true := fun a b => by
    simp
    omega
  refine List.Perm.eq_of_pairwise (le := fun a b => decide (a ≤ b) = true) (fun a b _ _ h1 h2 => ?_) (List.pairwise_mergeSort tr to l) (List.pairwise_mergeSort tr to m) ?_
  · simp at h1 h2
    omega
  · exact ((List.mergeSort_perm l _).trans h).trans (List.mergeSort_perm m _).symm
/-! ### the most worn -/
theorem ovL_pos {h : Int} : ∀ {l : List Int}, 0 ≤ ovL h l
  | [] => Int.le_refl _
  | x :: l => by
    have := ovL_pos (h := h) (l := l)
    unfold ovL at *
    rw [List.map_cons, List.sum_cons]
    omega
theorem ovL_zero {h : Int} : ∀ {l : List Int}, ovL h l = 0 ↔ ∀ x ∈ l, x ≤ h
  | [] => by simp [ovL]
  | x :: l => by
    have ih := ovL_zero (h := h) (l := l)
    have p := ovL_pos (h := h) (l := l)
    have e : ovL h (x :: l) = max 0 (x - h) + ovL h l := by simp [ovL]
    rw [e]
    constructor
    · intro z y hy
      rcases List.mem_cons.mp hy with rfl | hy
      · omega
      · exact ih.mp (by omega) y hy
    · intro z
      have := z x List.mem_cons_self
      have := ih.mpr fun y hy => z y (List.mem_cons_of_mem _ hy)
      omega
/-- no choice does it with less -/
theorem even_most {ws : List Int} {cs : List (List Nat)} {A B : List Nat} (vA : Val ws.length cs A) (vB : Val ws.length cs B) (hA : Even ws cs A) {k : Int} (h : ∀ x ∈ ld ws B, x ≤ k) : ∀ x ∈ ld ws A, x ≤ k := by
  have h1 := major vA vB hA k
  rw [over_list, over_list] at h1
  have h2 := ovL_zero.mpr h
  have h3 := ovL_pos (h := k) (l := ld ws A)
  exact ovL_zero.mp (by omega)
end Wn

/-! WnB: how often chains can make a choice more even, plain. -/
namespace Wn
open K71
def ab (x : Int) : Int := if x < 0 then -x else x
/-- how far apart all are, pair by pair -/
def far (x : Int) (l : List Int) : Int := (l.map fun y => ab (x - y)).sum
def G (l : List Int) : Int := (l.map fun x => far x l).sum
theorem sum_perm {l m : List Int} (h : l.Perm m) : l.sum = m.sum := by
  induction h with
  | nil => rfl
  | cons x _ ih => simp [ih]
  | swap x y l => simp; omega
  | trans _ _ h1 h2 => exact h1.trans h2
theorem far_perm {l m : List Int} (h : l.Perm m) (x : Int) : far x l = far x m := sum_perm (h.map _)
theorem G_perm {l m : List Int} (h : l.Perm m) : G l = G m := by
  unfold G
  rw [sum_perm (h.map fun x => far x l)]
  congr 1
  exact List.map_congr_left fun x _ => far_perm h x
theorem far_cons (x y : Int) (l : List Int) : far x (y :: l) = ab (x - y) + far x l := by simp [far]
theorem ab_comm (x y : Int) : ab (x - y) = ab (y - x) := by unfold ab; split <;> split <;> omega
theorem sum_far (x : Int) : ∀ (l m : List Int), (l.map fun y => far y (x :: m)).sum = far x l + (l.map fun y => far y m).sum
  | [], _ => by simp [far]
  | y :: l, m => by
    rw [List.map_cons, List.sum_cons, List.map_cons, List.sum_cons, sum_far x l m, far_cons, far_cons, ab_comm y x]
    omega
theorem G_cons (x : Int) (l : List Int) : G (x :: l) = 2 * far x l + G l := by
  unfold G
  rw [List.map_cons, List.sum_cons, sum_far, far_cons]
  have : ab (x - x) = 0 := by unfold ab; split <;> omega
  omega
theorem far_two {x y : Int} (h : y + 2 ≤ x) : ∀ l : List Int, far (x - 1) l + far (y + 1) l ≤ far x l + far y l
  | [] => by simp [far]
  | z :: l => by
    have ih := far_two h l
    rw [far_cons, far_cons, far_cons, far_cons]
    unfold ab
    split <;> split <;> split <;> split <;> omega
theorem G_two {x y : Int} (h : y + 2 ≤ x) (l : List Int) : G ((x - 1) :: (y + 1) :: l) + 4 ≤ G (x :: y :: l) := by
  rw [G_cons, G_cons, G_cons, G_cons, far_cons, far_cons]
  have := far_two h l
  have e1 : ab (x - 1 - (y + 1)) = x - y - 2 := by unfold ab; split <;> omega
  have e2 : ab (x - y) = x - y := by unfold ab; split <;> omega
  omega
theorem far_one (x : Int) : ∀ l : List Int, far (x + 1) l ≤ far x l + l.length ∧ far x l ≤ far (x + 1) l + l.length
  | [] => by simp [far]
  | z :: l => by
    have ih := far_one x l
    rw [far_cons, far_cons, List.length_cons]
    unfold ab
    split <;> split <;> omega
/-! a place of a list, changed -/
theorem set_cons {l : List Int} {a : Nat} (h : a < l.length) (v : Int) : (l.set a v).Perm (v :: l.eraseIdx a) := by
  induction l generalizing a with
  | nil => simp at h
  | cons y l ih =>
    cases a with
    | zero => simp
    | succ a =>
      rw [List.set_cons_succ, List.eraseIdx_cons_succ]
      exact ((ih (by simpa using h)).cons y).trans (List.Perm.swap _ _ _)
theorem get_cons {l : List Int} {a : Nat} (h : a < l.length) : l.Perm (l.getD a 0 :: l.eraseIdx a) := by
  have := set_cons h (l.getD a 0)
  rw [List.getD_eq_getElem?_getD, List.getElem?_eq_getElem h] at *
  simpa using this
theorem G_inc {l : List Int} {a : Nat} (h : a < l.length) : G (inc l a) ≤ G l + 2 * (l.length - 1) ∧ G l ≤ G (inc l a) + 2 * (l.length - 1) := by
  have e1 := G_perm (get_cons h)
  have e2 := G_perm (set_cons h (l.getD a 0 + 1))
  rw [G_cons] at e1 e2
  have := far_one (l.getD a 0) (l.eraseIdx a)
  have hl : (l.eraseIdx a).length = l.length - 1 := List.length_eraseIdx_of_lt h
  rw [hl] at this
  show G (l.set a (l.getD a 0 + 1)) ≤ _ ∧ _ ≤ G (l.set a (l.getD a 0 + 1)) + _
  omega
theorem G_ld {ch : List Nat} : ∀ {ws : List Int}, (∀ t ∈ ch, t < ws.length) → G (ld ws ch) ≤ G ws + 2 * (ws.length - 1) * ch.length ∧ G ws ≤ G (ld ws ch) + 2 * (ws.length - 1) * ch.length := by
  induction ch with
  | nil => intro ws _; simp [ld]
  | cons t ch ih =>
    intro ws h
    have h1 := G_inc (h t List.mem_cons_self)
    have h2 := ih (ws := inc ws t) fun x hx => by
      rw [inc_len]
      exact h x (List.mem_cons_of_mem _ hx)
    rw [inc_len] at h2
    show G (ld (inc ws t) ch) ≤ _ ∧ _ ≤ G (ld (inc ws t) ch) + _
    have e : 2 * ((ws.length : Int) - 1) * ((t :: ch).length : Nat) = 2 * ((ws.length : Int) - 1) + 2 * ((ws.length : Int) - 1) * (ch.length : Nat) := by
      rw [List.length_cons, Int.natCast_add, Int.mul_add]
      omega
    rw [e]
    omega
theorem far_nonneg (x : Int) : ∀ l : List Int, 0 ≤ far x l
  | [] => Int.le_refl _
  | z :: l => by
    have := far_nonneg x l
    rw [far_cons]
    unfold ab
    split <;> omega
theorem G_nonneg : ∀ l : List Int, 0 ≤ G l
  | [] => Int.le_refl _
  | x :: l => by
    have := G_nonneg l
    have := far_nonneg x l
    rw [G_cons]
    omega
/-- one step of a chain -/
theorem G_step {l m : List Int} {a b : Nat} (hl : m.length = l.length) (ha : a < l.length) (hb : b < l.length) (hg : l.getD b 0 + 2 ≤ l.getD a 0) (hm : ∀ t, t < l.length → m.getD t 0 = l.getD t 0 + (if t = b then 1 else 0) - (if t = a then 1 else 0)) : G m + 4 ≤ G l := by
  have hab : a ≠ b := fun e => by subst e; omega
  have e : m = (l.set a (l.getD a 0 - 1)).set b (l.getD b 0 + 1) := by
    refine List.ext_getElem (by simp [hl]) fun i h1 h2 => ?_
    have hi : i < l.length := by omega
    have := hm i hi
    rw [List.getElem_set, List.getElem_set]
    rw [List.getD_eq_getElem?_getD, List.getElem?_eq_getElem h1, List.getD_eq_getElem?_getD, List.getElem?_eq_getElem hi] at this
    simp only [Option.getD_some] at this
    by_cases h3 : b = i
    · subst h3
      rw [if_pos rfl, this, if_pos rfl, if_neg (fun z => hab z.symm), List.getD_eq_getElem?_getD, List.getElem?_eq_getElem hi]
      simp
    · rw [if_neg h3]
      by_cases h4 : a = i
      · subst h4
        rw [if_pos rfl, this, if_neg (fun z => hab z), if_pos rfl, List.getD_eq_getElem?_getD, List.getElem?_eq_getElem hi]
        simp
      · rw [if_neg h4, this, if_neg (fun z => h3 z.symm), if_neg (fun z => h4 z.symm)]
        omega
  have p1 := get_cons ha
  have hb' : ∃ k, k < (l.eraseIdx a).length ∧ (∀ v, ((l.set a (l.getD a 0 - 1)).set b v).Perm ((l.getD a 0 - 1) :: (l.eraseIdx a).set k v)) ∧ (l.eraseIdx a).getD k 0 = l.getD b 0 := by
    clear hm e p1 hl hg
    induction l generalizing a b with
    | nil => simp at ha
    | cons y l ih =>
      cases a with
      | zero =>
        cases b with
        | zero => exact absurd rfl hab
        | succ b =>
          refine ⟨b, by simpa using hb, fun v => ?_, by simp⟩
          simp
      | succ a =>
        cases b with
        | zero =>
          refine ⟨0, by simp, fun v => ?_, by simp⟩
          rw [List.set_cons_succ, List.set_cons_zero, List.eraseIdx_cons_succ, List.set_cons_zero]
          exact ((set_cons (by simpa using ha) _).cons v).trans (List.Perm.swap _ _ _)
        | succ b =>
          obtain ⟨k, k1, k2, k3⟩ := ih (a := a) (b := b) (by simpa using ha) (by simpa using hb) (by omega)
          refine ⟨k + 1, by simpa using k1, fun v => ?_, by simpa using k3⟩
          rw [List.set_cons_succ, List.set_cons_succ, List.eraseIdx_cons_succ, List.set_cons_succ, List.getD_cons_succ]
          exact ((k2 v).cons y).trans (List.Perm.swap _ _ _)
  obtain ⟨k, k1, k2, k3⟩ := hb'
  have q1 : G m = G ((l.getD a 0 - 1) :: (l.getD b 0 + 1) :: (l.eraseIdx a).eraseIdx k) := by
    rw [e]
    exact G_perm ((k2 _).trans ((set_cons k1 _).cons _))
  have q2 : G l = G (l.getD a 0 :: l.getD b 0 :: (l.eraseIdx a).eraseIdx k) := by
    have := get_cons k1
    rw [k3] at this
    exact G_perm (p1.trans (this.cons _))
  rw [q1, q2]
  exact G_two hg _
/-! ### at first: twelve wears below six -/
def par (p : Int → Bool) (l : List Int) : Int := (l.map fun x => (l.map fun y => if p x = p y then (0 : Int) else 1).sum).sum
theorem sum_ite (p : Int → Bool) (b : Bool) : ∀ l : List Int, (l.map fun y => if b = p y then (0 : Int) else 1).sum = if b = true then (l.length : Int) - (l.filter p).length else (l.filter p).length
  | [] => by cases b <;> simp
  | y :: l => by
    have ih := sum_ite p b l
    rw [List.map_cons, List.sum_cons, ih, List.filter_cons, List.length_cons]
    cases b <;> cases h : p y <;> simp <;> omega
theorem par_eq (p : Int → Bool) (l : List Int) : par p l = 2 * ((l.filter p).length * ((l.length : Int) - (l.filter p).length)) := by
  have key : ∀ (m : List Int) (n k : Int), (m.map fun x => if p x = true then n - k else k).sum = (m.filter p).length * (n - k) + ((m.length : Int) - (m.filter p).length) * k := by
    intro m n k
    induction m with
    | nil => simp
    | cons y m ih =>
      rw [List.map_cons, List.sum_cons, ih, List.filter_cons, List.length_cons]
      cases h : p y
      · simp [Int.add_mul, Int.sub_mul]
        omega
      · simp [Int.add_mul, Int.sub_mul]
        omega
  unfold par
  have e : (l.map fun x => (l.map fun y => if p x = p y then (0 : Int) else 1).sum) = l.map fun x => if p x = true then (l.length : Int) - (l.filter p).length else (l.filter p).length := List.map_congr_left fun x _ => sum_ite p (p x) l
  rw [e, key, Int.mul_comm (↑l.length - ↑(List.filter p l).length)]
  omega
theorem sum_le {α : Type} {f g : α → Int} : ∀ {l : List α}, (∀ x ∈ l, f x ≤ g x) → (l.map f).sum ≤ (l.map g).sum
  | [], _ => Int.le_refl _
  | x :: l, h => by
    have := sum_le (l := l) fun y hy => h y (List.mem_cons_of_mem _ hy)
    have := h x List.mem_cons_self
    simp
    omega
theorem sum_add {α : Type} (f g : α → Int) : ∀ l : List α, (l.map fun x => f x + g x).sum = (l.map f).sum + (l.map g).sum
  | [] => rfl
  | x :: l => by
    have := sum_add f g l
    simp [this]
    omega
theorem par_36 (p : Int → Bool) {l : List Int} (h : l.length = 12) : par p l ≤ 72 := by
  rw [par_eq, h]
  have h1 : (l.filter p).length ≤ 12 := h ▸ List.length_filter_le p l
  generalize (l.filter p).length = k at *
  have : ∀ k < 13, 2 * ((k : Nat) * (((12 : Nat) : Int) - k)) ≤ 72 := by decide
  exact this k (by omega)
theorem G_first {l : List Int} (h : l.length = 12) (hb : ∀ x ∈ l, 0 ≤ x ∧ x ≤ 5) : G l ≤ 360 := by
  have key : G l ≤ par (fun x => decide (0 < x)) l + (par (fun x => decide (1 < x)) l + (par (fun x => decide (2 < x)) l + (par (fun x => decide (3 < x)) l + par (fun x => decide (4 < x)) l))) := by
    unfold par
    rw [← sum_add, ← sum_add, ← sum_add, ← sum_add]
    refine sum_le fun x hx => ?_
    rw [← sum_add, ← sum_add, ← sum_add, ← sum_add]
    refine sum_le fun y hy => ?_
    have h1 := hb x hx
    have h2 := hb y hy
    have a1 : x = 0 ∨ x = 1 ∨ x = 2 ∨ x = 3 ∨ x = 4 ∨ x = 5 := by omega
    have a2 : y = 0 ∨ y = 1 ∨ y = 2 ∨ y = 3 ∨ y = 4 ∨ y = 5 := by omega
    rcases a1 with rfl | rfl | rfl | rfl | rfl | rfl <;> rcases a2 with rfl | rfl | rfl | rfl | rfl | rfl <;> decide
  have := par_36 (fun x => decide (0 < x)) h
  have := par_36 (fun x => decide (1 < x)) h
  have := par_36 (fun x => decide (2 < x)) h
  have := par_36 (fun x => decide (3 < x)) h
  have := par_36 (fun x => decide (4 < x)) h
  omega
end Wn

/-! WnC: what is found from a tape, a chain along it, plain. -/
namespace Wn
open K71
/-- tapes found from one, with the ask and the tape that led there -/
abbrev Fd := List (Nat × Option (Nat × Nat))
def keys (A : Fd) : List Nat := A.map (·.1)
/-- amid a search: found so far -/
structure Fnd (T tape : Nat) (cs : List (List Nat)) (ch : List Nat) (A : Fd) : Prop where
  nd : (keys A).Nodup
  lt : ∀ x ∈ keys A, x < T
  hd : A[0]? = some (tape, none)
  pr : ∀ (j o : Nat) (w : Option (Nat × Nat)), A[j]? = some (o, w) → (w = none ↔ j = 0) ∧ ∀ a h, w = some (a, h) → ch[a]? = some h ∧ (∃ c, cs[a]? = some c ∧ o ∈ c) ∧ ∃ i u, i < j ∧ A[i]? = some (h, u)
theorem Fnd.root {T tape : Nat} {cs : List (List Nat)} {ch : List Nat} (h : tape < T) : Fnd T tape cs ch [(tape, none)] := by
  refine ⟨by simp [keys], fun x hx => by simp [keys] at hx; omega, rfl, fun j o w e => ?_⟩
  cases j with
  | zero =>
    simp at e
    obtain ⟨rfl, rfl⟩ := e
    exact ⟨by simp, fun _ _ z => by cases z⟩
  | succ j => simp at e
theorem Fnd.add {T tape : Nat} {cs : List (List Nat)} {ch : List Nat} {A : Fd} (F : Fnd T tape cs ch A) {o a h : Nat} {c : List Nat} (ho : o < T) (hn : o ∉ keys A) (e1 : ch[a]? = some h) (e2 : cs[a]? = some c) (hc : o ∈ c) (hh : h ∈ keys A) : Fnd T tape cs ch (A ++ [(o, some (a, h))]) := by
  have h0 : 0 < A.length := (List.getElem?_eq_some_iff.mp F.hd).1
  refine ⟨?_, ?_, by rw [List.getElem?_append_left h0]; exact F.hd, fun j x w e => ?_⟩
  · unfold keys
    rw [List.map_append]
    exact List.nodup_append.mpr ⟨F.nd, by simp, fun a ha b hb => by
      simp at hb
      rw [hb]
      exact fun e => hn (e ▸ ha)⟩
  · intro x hx
    unfold keys at hx
    rw [List.map_append] at hx
    rcases List.mem_append.mp hx with hx | hx
    · exact F.lt x hx
    · simp at hx
      rw [hx]
      exact ho
  · by_cases hj : j < A.length
    · rw [List.getElem?_append_left hj] at e
      obtain ⟨p1, p2⟩ := F.pr j x w e
      refine ⟨p1, fun a' h' z => ?_⟩
      obtain ⟨q1, q2, i, u, q3, q4⟩ := p2 a' h' z
      exact ⟨q1, q2, i, u, q3, by rw [List.getElem?_append_left (by omega)]; exact q4⟩
    · rw [List.getElem?_append_right (by omega)] at e
      have : j - A.length = 0 := by
        have := (List.getElem?_eq_some_iff.mp e).1
        simp at this
        omega
      rw [this] at e
      simp at e
      obtain ⟨rfl, rfl⟩ := e
      refine ⟨by constructor <;> intro z <;> first | omega | (cases z), fun a' h' z => ?_⟩
      cases z
      obtain ⟨p, hp, rfl⟩ := List.mem_map.mp hh
      obtain ⟨i, hi⟩ := List.mem_iff_getElem?.mp hp
      have := (List.getElem?_eq_some_iff.mp hi).1
      exact ⟨e1, ⟨c, e2, hc⟩, i, p.2, by omega, by rw [List.getElem?_append_left this]; exact hi⟩
theorem Fnd.tape {T tape : Nat} {cs : List (List Nat)} {ch : List Nat} {A : Fd} (F : Fnd T tape cs ch A) : tape ∈ keys A := List.mem_map.mpr ⟨_, List.mem_of_getElem? F.hd, rfl⟩
/-- whatever is found can be reached -/
theorem Fnd.rch {T tape : Nat} {cs : List (List Nat)} {ch : List Nat} {A : Fd} (F : Fnd T tape cs ch A) : ∀ (j o : Nat) (w : Option (Nat × Nat)), A[j]? = some (o, w) → Rch cs ch tape o := by
  intro j
  induction j using Nat.strongRecOn with
  | ind j ih =>
    intro o w e
    obtain ⟨p1, p2⟩ := F.pr j o w e
    cases w with
    | none =>
      have := p1.mp rfl
      subst this
      rw [F.hd] at e
      cases e
      exact .refl
    | some w =>
      obtain ⟨a, h⟩ := w
      obtain ⟨q1, ⟨c, q2, q3⟩, i, u, q4, q5⟩ := p2 a h rfl
      exact .step (ih i q4 h u q5) q1 q2 q3
/-- nothing more is to be found -/
def Shut (cs : List (List Nat)) (ch : List Nat) (A : Fd) : Prop := ∀ (x i o : Nat) (c : List Nat), x ∈ keys A → ch[i]? = some x → cs[i]? = some c → o ∈ c → o ∈ keys A
theorem Fnd.all {T tape : Nat} {cs : List (List Nat)} {ch : List Nat} {A : Fd} (F : Fnd T tape cs ch A) (hS : Shut cs ch A) (o : Nat) : o ∈ keys A ↔ Rch cs ch tape o := by
  constructor
  · intro h
    obtain ⟨p, hp, rfl⟩ := List.mem_map.mp h
    obtain ⟨j, hj⟩ := List.mem_iff_getElem?.mp hp
    exact F.rch j p.1 p.2 hj
  · intro h
    induction h with
    | refl => exact F.tape
    | step _ e1 e2 hm ih => exact hS _ _ _ _ ih e1 e2 hm
theorem keys_len {T : Nat} {l : List Nat} (hd : l.Nodup) (h : ∀ x ∈ l, x < T) : l.length ≤ T := by
  induction T generalizing l with
  | zero =>
    cases l with
    | nil => exact Nat.le_refl _
    | cons x _ => exact absurd (h x List.mem_cons_self) (Nat.not_lt_zero _)
  | succ N ih =>
    by_cases q : N ∈ l
    · have h1 : (l.erase N).length ≤ N := ih (hd.erase N) fun x hx => by
        have h2 := (List.Nodup.mem_erase_iff hd).mp hx
        have := h x h2.2
        have := h2.1
        omega
      have := List.length_erase_of_mem q
      have := List.length_pos_of_mem q
      omega
    · have : l.length ≤ N := ih hd fun x hx => by
        have := h x hx
        have : x ≠ N := fun e => q (e ▸ hx)
        omega
      omega
/-- of a key, where it stands -/
theorem key_one {A : Fd} (hd : (keys A).Nodup) {i j o : Nat} {u w : Option (Nat × Nat)} (hi : A[i]? = some (o, u)) (hj : A[j]? = some (o, w)) : i = j ∧ u = w := by
  have e1 : (keys A)[i]? = some o := by unfold keys; rw [List.getElem?_map, hi]; rfl
  have e2 : (keys A)[j]? = some o := by unfold keys; rw [List.getElem?_map, hj]; rfl
  have hi' := (List.getElem?_eq_some_iff.mp e1).1
  have := (List.getElem?_inj hi' hd).mp (e1.trans e2.symm)
  subst this
  rw [hi] at hj
  cases hj
  exact ⟨rfl, rfl⟩
/-! ### asks moved on along a chain -/
/-- amid the moving: now at the tape that stands at j -/
structure Mv (cs : List (List Nat)) (ch : List Nat) (A : Fd) (goal j : Nat) (new : List Nat) : Prop where
  len : new.length = ch.length
  ok : ∀ (i t : Nat) (c : List Nat), new[i]? = some t → cs[i]? = some c → t ∈ c
  un : ∀ (a h i : Nat) (u : Option (Nat × Nat)), ch[a]? = some h → A[i]? = some (h, u) → i < j → new[a]? = ch[a]?
  ct : ∀ (x : Nat) (w : Option (Nat × Nat)), A[j]? = some (x, w) → ∀ t, cnt new t = cnt ch t + (if t = goal then 1 else 0) - (if t = x then 1 else 0)
theorem cnt_set {l : List Nat} {a h : Nat} (x : Nat) (e : l[a]? = some h) (t : Nat) : cnt (l.set a x) t = cnt l t + (if t = x then 1 else 0) - (if t = h then 1 else 0) := by
  induction l generalizing a with
  | nil => simp at e
  | cons y l ih =>
    cases a with
    | zero =>
      simp at e
      subst e
      rw [List.set_cons_zero, cnt_cons, cnt_cons]
      omega
    | succ a =>
      rw [List.set_cons_succ, cnt_cons, cnt_cons, ih (by simpa using e)]
      omega
theorem Mv.start {T : Nat} {cs : List (List Nat)} {ch : List Nat} {A : Fd} (hV : Val T cs ch) {goal j : Nat} {w : Option (Nat × Nat)} (e : A[j]? = some (goal, w)) : Mv cs ch A goal j ch :=
  ⟨rfl, hV.mem, fun _ _ _ _ _ _ _ => rfl, fun x w' e' t => by
    rw [e] at e'
    cases e'
    omega⟩
theorem Mv.step {T tape : Nat} {cs : List (List Nat)} {ch : List Nat} {A : Fd} (F : Fnd T tape cs ch A) {goal j x a h : Nat} {new : List Nat} (M : Mv cs ch A goal j new) (e : A[j]? = some (x, some (a, h))) : a < new.length ∧ ∃ i u, i < j ∧ A[i]? = some (h, u) ∧ Mv cs ch A goal i (new.set a x) := by
  obtain ⟨p1, p2⟩ := F.pr j x _ e
  obtain ⟨q1, ⟨c, q2, q3⟩, i, u, q4, q5⟩ := p2 a h rfl
  have hun := M.un a h i u q1 q5 q4
  rw [q1] at hun
  have ha := (List.getElem?_eq_some_iff.mp hun).1
  refine ⟨ha, i, u, q4, q5, by rw [List.length_set]; exact M.len, fun i' t c' e1 e2 => ?_, fun a' h' i' u' e1 e2 l => ?_, fun y w' e' t => ?_⟩
  · by_cases z : a = i'
    · subst z
      rw [List.getElem?_set_self ha] at e1
      cases e1
      rw [q2] at e2
      cases e2
      exact q3
    · rw [List.getElem?_set_ne z] at e1
      exact M.ok i' t c' e1 e2
  · by_cases z : a = a'
    · subst z
      rw [q1] at e1
      cases e1
      have := (key_one F.nd q5 e2).1
      omega
    · rw [List.getElem?_set_ne z]
      exact M.un a' h' i' u' e1 e2 (by omega)
  · rw [q5] at e'
    cases e'
    rw [cnt_set x hun, M.ct x _ e]
    omega
/-- at the chain's begin -/
theorem Mv.done {T tape : Nat} {cs : List (List Nat)} {ch : List Nat} {A : Fd} (F : Fnd T tape cs ch A) (hV : Val T cs ch) {goal j x : Nat} {new : List Nat} (M : Mv cs ch A goal j new) (e : A[j]? = some (x, none)) : Val T cs new ∧ ∀ t, cnt new t = cnt ch t + (if t = goal then 1 else 0) - (if t = tape then 1 else 0) := by
  have h0 := (F.pr j x _ e).1.mp rfl
  subst h0
  have := F.hd
  rw [e] at this
  cases this
  exact ⟨⟨by rw [M.len, hV.len], M.ok, hV.lt⟩, M.ct _ _ e⟩
/-- a choice that one chain made more even, by how much it is so -/
def Better (ws : List Int) (cs : List (List Nat)) (ch new : List Nat) : Prop := Val ws.length cs new ∧ ∃ a b, a < ws.length ∧ b < ws.length ∧ Rch cs ch a b ∧ L ws ch b + 2 ≤ L ws ch a ∧ ∀ t, cnt new t = cnt ch t + (if t = b then 1 else 0) - (if t = a then 1 else 0)
theorem Better.G {ws : List Int} {cs : List (List Nat)} {ch new : List Nat} (hV : Val ws.length cs ch) (h : Better ws cs ch new) : G (ld ws new) + 4 ≤ G (ld ws ch) := by
  obtain ⟨hN, a, b, ha, hb, _, hg, hc⟩ := h
  have l1 := ld_len ch ws
  have l2 := ld_len new ws
  refine G_step (a := a) (b := b) (by omega) (by omega) (by omega) hg fun t _ => ?_
  have e1 := L_eq hV t
  have e2 := L_eq hN t
  have := hc t
  unfold L at e1 e2
  omega
theorem Better.not {ws : List Int} {cs : List (List Nat)} {ch new : List Nat} (h : Better ws cs ch new) : ¬ Even ws cs ch := fun z => by
  obtain ⟨_, a, b, ha, _, hr, hg, _⟩ := h
  have := z a b ha hr
  omega
end Wn

/-! WnD: up to which wear tapes have room; by other names; plain. -/
namespace Wn
open K71
/-- how much room some tapes have below a level -/
def fill (ws : List Int) (U : List Nat) (h : Int) : Int := (U.map fun t => max 0 (h - ws.getD t 0)).sum
theorem fill_perm {ws : List Int} {U V : List Nat} (p : U.Perm V) (h : Int) : fill ws U h = fill ws V h := sum_perm (p.map _)
theorem fill_mono {ws : List Int} {U : List Nat} {h k : Int} (l : h ≤ k) : fill ws U h ≤ fill ws U k := sum_le fun t _ => by omega
theorem nodup_perm {U V : List Nat} (hu : U.Nodup) (hv : V.Nodup) (h : ∀ t, t ∈ U ↔ t ∈ V) : U.Perm V := by
  refine List.perm_iff_count.mpr fun t => ?_
  rw [hu.count, hv.count]
  by_cases q : t ∈ U
  · rw [if_pos q, if_pos ((h t).mp q)]
  · rw [if_neg q, if_neg (fun z => q ((h t).mpr z))]
/-- the least level with room for so many -/
def Lv (ws : List Int) (U : List Nat) (k : Nat) (h : Int) : Prop := (k : Int) ≤ fill ws U h ∧ fill ws U (h - 1) < k
theorem lv_one {ws : List Int} {U : List Nat} {k : Nat} {g h : Int} (a : Lv ws U k g) (b : Lv ws U k h) : g = h := by
  rcases Int.lt_trichotomy g h with l | l | l
  · have := fill_mono (ws := ws) (U := U) (h := g) (k := h - 1) (by omega)
    have := a.1
    have := b.2
    omega
  · exact l
  · have := fill_mono (ws := ws) (U := U) (h := h) (k := g - 1) (by omega)
    have := b.1
    have := a.2
    omega
/-- as a sum over all tapes -/
theorem fill_S {ws : List Int} : ∀ {U : List Nat} (h : Int), U.Nodup → (∀ t ∈ U, t < ws.length) → fill ws U h = S ws.length fun t => if t ∈ U then max 0 (h - ws.getD t 0) else 0
  | [], h, _, _ => by
    have : S ws.length (fun t => if t ∈ ([] : List Nat) then max 0 (h - ws.getD t 0) else 0) = S ws.length fun _ => 0 := S_congr fun t _ => by simp
    rw [this, S_zero]
    rfl
  | u :: U, h, nd, lt => by
    have nd' := List.nodup_cons.mp nd
    have ih := fill_S (U := U) h nd'.2 fun t ht => lt t (List.mem_cons_of_mem _ ht)
    have e : S ws.length (fun t => if t ∈ u :: U then max 0 (h - ws.getD t 0) else 0) = S ws.length fun t => (if t = u then max 0 (h - ws.getD u 0) else 0) + if t ∈ U then max 0 (h - ws.getD t 0) else 0 := S_congr fun t _ => by
      by_cases q : t = u
      · subst q
        simp [nd'.1]
      · simp [q]
    rw [e, S_add, S_one (lt u List.mem_cons_self), ← ih]
    simp [fill]
/-- the tapes that have some of the asks -/
def Has (cs : List (List Nat)) (lot : List Nat) (t : Nat) : Prop := ∃ a ∈ lot, ∃ c, cs[a]? = some c ∧ t ∈ c
/-- the asks on tapes that chains from m lead to -/
def lotOf (ch : List Nat) (p : Nat → Bool) : List Nat := (ch.zipIdx.filter fun q => p q.1).map (·.2)
theorem lotOf_mem {ch : List Nat} {p : Nat → Bool} {a : Nat} : a ∈ lotOf ch p ↔ ∃ t, ch[a]? = some t ∧ p t = true := by
  unfold lotOf
  constructor
  · intro h
    obtain ⟨q, hq, rfl⟩ := List.mem_map.mp h
    obtain ⟨h1, h2⟩ := List.mem_filter.mp hq
    exact ⟨q.1, List.mem_zipIdx_iff_getElem?.mp h1, h2⟩
  · rintro ⟨t, h1, h2⟩
    exact List.mem_map.mpr ⟨(t, a), List.mem_filter.mpr ⟨List.mem_zipIdx_iff_getElem?.mpr h1, h2⟩, rfl⟩
theorem lotOf_len (ch : List Nat) (p : Nat → Bool) : (lotOf ch p).length = (ch.filter p).length := by
  have key : ∀ (ch : List Nat) (k : Nat), ((ch.zipIdx k).filter fun q => p q.1).length = (ch.filter p).length := by
    intro ch
    induction ch with
    | nil => intro k; rfl
    | cons x ch ih =>
      intro k
      rw [List.zipIdx_cons, List.filter_cons, List.filter_cons]
      by_cases h : p x = true
      · simp [h, ih]
      · simp [h, ih]
  unfold lotOf
  rw [List.length_map]
  exact key ch 0
theorem lotOf_up (ch : List Nat) (p : Nat → Bool) : (lotOf ch p).Pairwise (· < ·) := by
  have h : (ch.zipIdx.map (·.2)).Pairwise (· < ·) := by
    rw [List.zipIdx_map_snd]
    exact List.pairwise_lt_range'
  exact h.sublist ((List.filter_sublist (l := ch.zipIdx)).map _)
/-- it needs as much as the most worn has -/
theorem lot_needs {ws : List Int} {cs : List (List Nat)} {ch : List Nat} (hV : Val ws.length cs ch) (hE : Even ws cs ch) {m : Nat} {top : Int} (hm : m < ws.length) (ht : L ws ch m = top) (hall : ∀ t, t < ws.length → L ws ch t ≤ top) (hw : ∀ t, t < ws.length → ws.getD t 0 < top)
    {p : Nat → Bool} (hp : ∀ t, t < ws.length → (p t = true ↔ Rch cs ch m t)) {U : List Nat} (nd : U.Nodup) (hU : ∀ t, t ∈ U ↔ Has cs (lotOf ch p) t) : lotOf ch p ≠ [] ∧ Lv ws U (lotOf ch p).length top := by
  have inU : ∀ t, t ∈ U → t < ws.length ∧ p t = true := fun t h => by
    obtain ⟨a, ha, c, hc, hm'⟩ := (hU t).mp h
    obtain ⟨s, hs, ps⟩ := lotOf_mem.mp ha
    have hs' := hV.tl s (List.mem_of_getElem? hs)
    have hlt := hV.lt c (List.mem_of_getElem? hc) t hm'
    exact ⟨hlt, (hp t hlt).mpr (.step ((hp s hs').mp ps) hs hc hm')⟩
  have noU : ∀ t, t < ws.length → p t = true → t ∉ U → cnt ch t = 0 := fun t h1 h2 h3 => by
    by_cases q : t ∈ ch
    · obtain ⟨a, ha⟩ := List.mem_iff_getElem?.mp q
      obtain ⟨c, hc, hm'⟩ := hV.get ha
      exact absurd ((hU t).mpr ⟨a, lotOf_mem.mpr ⟨t, ha, h2⟩, c, hc, hm'⟩) h3
    · unfold cnt
      have : ch.filter (fun x => x == t) = [] := List.filter_eq_nil_iff.mpr fun x hx e => by
        simp at e
        exact q (e ▸ hx)
      rw [this]
      rfl
  have hmU : m ∈ U := by
    by_cases q : m ∈ U
    · exact q
    · have h1 := noU m hm ((hp m hm).mpr .refl) q
      have h2 := L_eq hV m
      have h3 := hw m hm
      omega
  have hlen : ((lotOf ch p).length : Int) = S ws.length fun t => if t ∈ U then cnt ch t else 0 := by
    rw [lotOf_len, ← cnt_sum p hV.tl]
    refine S_congr fun t ht => ?_
    by_cases q : t ∈ U
    · rw [if_pos (inU t q).2, if_pos q]
    · rw [if_neg q]
      by_cases q2 : p t = true
      · rw [if_pos q2, noU t ht q2 q]
      · rw [if_neg q2]
  refine ⟨fun e => ?_, ?_, ?_⟩
  · obtain ⟨a, ha, _⟩ := (hU m).mp hmU
    rw [e] at ha
    cases ha
  · rw [hlen, fill_S top nd fun t h => (inU t h).1]
    refine S_le fun t ht => ?_
    by_cases q : t ∈ U
    · rw [if_pos q, if_pos q]
      have := L_eq hV t
      have := hall t ht
      omega
    · rw [if_neg q, if_neg q]
      omega
  · rw [hlen, fill_S (top - 1) nd fun t h => (inU t h).1]
    refine S_lt (a := m) (fun t ht => ?_) hm ?_
    · by_cases q : t ∈ U
      · rw [if_pos q, if_pos q]
        have h1 := L_eq hV t
        have h2 := hE m t hm ((hp t ht).mp (inU t q).2)
        have h3 := cnt_nonneg ch t
        omega
      · rw [if_neg q, if_neg q]
        omega
    · rw [if_pos hmU, if_pos hmU]
      have h1 := L_eq hV m
      have h2 := hw m hm
      omega
/-! ### the least wear of the most worn, told by its choices -/
/-- m is the most worn's wear, and no choice does with less -/
structure Least (ws : List Int) (cs : List (List Nat)) (m : Int) : Prop where
  ex : ∃ ch, Val ws.length cs ch ∧ ∀ t, t < ws.length → L ws ch t ≤ m
  mn : ∀ ch, Val ws.length cs ch → ∃ t, t < ws.length ∧ m ≤ L ws ch t
theorem Least.one {ws : List Int} {cs : List (List Nat)} {m k : Int} (a : Least ws cs m) (b : Least ws cs k) : m = k := by
  obtain ⟨ch, v1, h1⟩ := a.ex
  obtain ⟨t, ht, h2⟩ := b.mn ch v1
  obtain ⟨dh, v2, h3⟩ := b.ex
  obtain ⟨s, hs, h4⟩ := a.mn dh v2
  have := h1 t ht
  have := h3 s hs
  omega
theorem even_least {ws : List Int} {cs : List (List Nat)} {ch : List Nat} (hV : Val ws.length cs ch) (hE : Even ws cs ch) {m : Int} (h1 : ∀ t, t < ws.length → L ws ch t ≤ m) (h2 : ∃ t, t < ws.length ∧ L ws ch t = m) : Least ws cs m := by
  refine ⟨⟨ch, hV, h1⟩, fun dh hD => ?_⟩
  obtain ⟨t, ht, e⟩ := h2
  refine Classical.byContradiction fun no => ?_
  have lt : ∀ s, s < ws.length → L ws dh s ≤ m - 1 := fun s hs => by
    have : ¬ m ≤ L ws dh s := fun z => no ⟨s, hs, z⟩
    omega
  have key := even_most (k := m - 1) hV hD hE fun x hx => by
    obtain ⟨i, hi⟩ := List.mem_iff_getElem?.mp hx
    have hil := (List.getElem?_eq_some_iff.mp hi).1
    rw [ld_len] at hil
    have := lt i hil
    unfold L at this
    rw [List.getD_eq_getElem?_getD, hi] at this
    exact this
  have hx : L ws ch t ∈ ld ws ch := by
    have htl : t < (ld ws ch).length := by rw [ld_len]; exact ht
    unfold L
    rw [List.getD_eq_getElem?_getD, List.getElem?_eq_getElem htl]
    exact List.getElem_mem _
  have := key _ hx
  omega
/-- fewer asks -/
theorem least_tail {ws : List Int} {c : List Nat} {cs : List (List Nat)} {m k : Int} (hc : ∃ t ∈ c, True) (a : Least ws (c :: cs) m) (b : Least ws cs k) : m - 1 ≤ k ∧ k ≤ m := by
  have cc : ∀ (x : Nat) (ch : List Nat) (t : Nat), Val ws.length (c :: cs) (x :: ch) → L ws (x :: ch) t = L ws ch t + if t = x then 1 else 0 := fun x ch t v => by
    have v2 : Val ws.length cs ch := ⟨by simpa using v.len, fun i s d e1 e2 => v.mem (i + 1) s d e1 e2, fun d hd => v.lt d (List.mem_cons_of_mem _ hd)⟩
    rw [L_eq v, L_eq v2, cnt_cons]
    omega
  constructor
  · obtain ⟨ch, v, h⟩ := b.ex
    obtain ⟨x, hx, _⟩ := hc
    obtain ⟨ch0, v0, _⟩ := a.ex
    have v2 : Val ws.length (c :: cs) (x :: ch) := ⟨by simp [v.len], fun i s d e1 e2 => by
      cases i with
      | zero => simp at e1 e2; rw [← e1, ← e2]; exact hx
      | succ i => exact v.mem i s d e1 e2, v0.lt⟩
    obtain ⟨t, ht, h2⟩ := a.mn _ v2
    rw [cc x ch t v2] at h2
    have := h t ht
    split at h2 <;> omega
  · obtain ⟨ch, v, h⟩ := a.ex
    cases ch with
    | nil => have := v.len; simp at this
    | cons x ch =>
      have v2 : Val ws.length cs ch := ⟨by simpa using v.len, fun i s d e1 e2 => v.mem (i + 1) s d e1 e2, fun d hd => v.lt d (List.mem_cons_of_mem _ hd)⟩
      obtain ⟨t, ht, h2⟩ := b.mn ch v2
      have h3 := h t ht
      rw [cc x ch t v] at h3
      split at h3 <;> omega
/-- all worn by so many more -/
theorem least_more {ws : List Int} {cs : List (List Nat)} {m u : Int} (a : Least ws cs m) : Least (ws.map fun x => x + u) cs (m + u) := by
  have ee : ∀ ch, Val ws.length cs ch → ∀ t, t < ws.length → L (ws.map fun x => x + u) ch t = L ws ch t + u := fun ch v t ht => by
    have v2 : Val (ws.map fun x => x + u).length cs ch := by rw [List.length_map]; exact v
    rw [L_eq v, L_eq v2, List.getD_eq_getElem?_getD, List.getElem?_map, List.getD_eq_getElem?_getD, List.getElem?_eq_getElem ht]
    simp
    omega
  refine ⟨?_, fun ch v => ?_⟩
  · obtain ⟨ch, v, h⟩ := a.ex
    rw [List.length_map]
    refine ⟨ch, v, fun t ht => ?_⟩
    rw [ee ch v t ht]
    have := h t ht
    omega
  · rw [List.length_map] at v ⊢
    obtain ⟨t, ht, h⟩ := a.mn ch v
    refine ⟨t, ht, ?_⟩
    rw [ee ch v t ht]
    omega
/-- by other names -/
theorem least_names {ws vs : List Int} {cs ds : List (List Nat)} {m : Int} {f g : Nat → Nat} (hl : vs.length = ws.length) (hf : ∀ t, t < ws.length → f t < ws.length) (hg : ∀ t, t < ws.length → g t < ws.length) (fg : ∀ t, t < ws.length → f (g t) = t) (gf : ∀ t, t < ws.length → g (f t) = t)
    (hv : ∀ t, t < ws.length → vs.getD (f t) 0 = ws.getD t 0) (hd : ds.length = cs.length) (hlt : ∀ d ∈ ds, ∀ x ∈ d, x < ws.length) (hcd : ∀ (i : Nat) (c d : List Nat), cs[i]? = some c → ds[i]? = some d → ∀ t, t < ws.length → (t ∈ c ↔ f t ∈ d)) (a : Least ws cs m) : Least vs ds m := by
  obtain ⟨ch0, v0, _⟩ := a.ex
  have cm : ∀ (h k : Nat → Nat), (∀ t, t < ws.length → h (k t) = t) → (∀ t, t < ws.length → k (h t) = t) → ∀ (ch : List Nat), (∀ t ∈ ch, t < ws.length) → ∀ t, t < ws.length → cnt (ch.map h) (h t) = cnt ch t := by
    intro h k hk kh ch
    induction ch with
    | nil => intro _ t _; rfl
    | cons x ch ih =>
      intro hx t ht
      have x1 := hx x List.mem_cons_self
      rw [List.map_cons, cnt_cons, cnt_cons, ih (fun y hy => hx y (List.mem_cons_of_mem _ hy)) t ht]
      by_cases e : t = x
      · rw [if_pos e, if_pos (by rw [e])]
      · rw [if_neg e, if_neg (fun z => e (by rw [← kh t ht, ← kh x x1, z]))]
  have up : ∀ ch, Val ws.length cs ch → Val vs.length ds (ch.map f) := fun ch v => by
    rw [hl]
    refine ⟨by rw [List.length_map, v.len, hd], fun i t d e1 e2 => ?_, hlt⟩
    rw [List.getElem?_map] at e1
    obtain ⟨s, hs, rfl⟩ := Option.map_eq_some_iff.mp e1
    obtain ⟨c, hc, hm⟩ := v.get hs
    exact (hcd i c d hc e2 s (v.tl s (List.mem_of_getElem? hs))).mp hm
  have dn : ∀ dh, Val vs.length ds dh → Val ws.length cs (dh.map g) := fun dh v => by
    rw [hl] at v
    refine ⟨by rw [List.length_map, v.len, hd], fun i t c e1 e2 => ?_, v0.lt⟩
    rw [List.getElem?_map] at e1
    obtain ⟨s, hs, rfl⟩ := Option.map_eq_some_iff.mp e1
    obtain ⟨d, hd', hm⟩ := v.get hs
    have hs' := v.tl s (List.mem_of_getElem? hs)
    refine (hcd i c d e2 hd' (g s) (hg s hs')).mpr ?_
    rw [fg s hs']
    exact hm
  refine ⟨?_, fun dh v => ?_⟩
  · obtain ⟨ch, v, h⟩ := a.ex
    refine ⟨ch.map f, up ch v, fun s hs => ?_⟩
    rw [hl] at hs
    have h2 := h (g s) (hg s hs)
    rw [L_eq v] at h2
    rw [L_eq (up ch v)]
    have e1 := cm f g fg gf ch v.tl (g s) (hg s hs)
    have e2 := hv (g s) (hg s hs)
    rw [fg s hs] at e1 e2
    rw [e1, e2]
    exact h2
  · obtain ⟨t, ht, h⟩ := a.mn _ (dn dh v)
    refine ⟨f t, by rw [hl]; exact hf t ht, ?_⟩
    rw [L_eq (dn dh v)] at h
    rw [L_eq v, hv t ht]
    have vl : ∀ s ∈ dh, s < ws.length := fun s hs => by
      have := v.tl s hs
      rw [hl] at this
      exact this
    have e1 := cm g f gf fg dh vl (f t) (hf t ht)
    rw [gf t ht] at e1
    rw [← e1]
    exact h
end Wn

set_option Elab.async false
set_option linter.all false
set_option maxRecDepth 100000
set_option maxHeartbeats 4000000
/-! Ev1: plain data, what of the heap stands for it, worlds. -/
namespace Ev
open PySem PySem.Spec PyProof.Rows L2

/-- plain data; xt: a tuple whose object is known wholly (it has no dict); opq: a reference, whatever stands there; pot: the one list that the defs of a law hand about and change -/
inductive D where
  | non | bl (b : Bool) | int (i : Int) | str (s : Str)
  | tup (xs : List D) | lst (xs : List D)
  | dct (t : Bool) (ks vs : List D) | set (xs : List Int) | rng (lo hi : Int)
  | pot | exc (c : Str) (v : D) | clo (n : Nat) (vs : List D)
  | xt (xs : List D) | opq (a : Addr)
  deriving Inhabited

abbrev Frag := PySem.W.Frag
abbrev AP := Addr → Prop

/-- what holds of what stands outside B stays so -/
def Keep (B B' : AP) (H H' : Hp) : Prop := ∀ a o, H a = some o → ¬ B a → H' a = some o ∧ ¬ B' a
theorem Keep.refl (B : AP) (H : Hp) : Keep B B H H := fun _ _ h n => ⟨h, n⟩
theorem Keep.trans {B B1 B2 : AP} {H H1 H2 : Hp} (a : Keep B B1 H H1) (b : Keep B1 B2 H1 H2) : Keep B B2 H H2 := fun c o h n =>
  let ⟨h1, n1⟩ := a c o h n
  b c o h1 n1

/-! ### dicts: t: keys are tuples of ints and such tuples; else ints or texts -/
mutual
def nkD : D → PySem.NestedKey
  | .int i => .num i
  | .bl b => .num (if b then 1 else 0)
  | .str x => .text x
  | .tup xs => .tup (nkL xs)
  | .xt xs => .tup (nkL xs)
  | _ => .none
def nkL : List D → List PySem.NestedKey
  | [] => []
  | d :: ds => nkD d :: nkL ds
end
mutual
/-- a part of a key -/
def kPt : Nat → D → Bool
  | _, .int _ => true
  | n + 1, .tup xs => kPtL n xs
  | n + 1, .xt xs => kPtL n xs
  | _, _ => false
def kPtL : Nat → List D → Bool
  | _, [] => true
  | n, d :: ds => kPt n d && kPtL n ds
end
def kOk : D → Bool
  | .tup xs => kPtL 7 xs
  | .xt xs => kPtL 7 xs
  | _ => false
mutual
def hash0 : PySem.NestedKey → Int
  | .none => PySem.reduceHash 0xFCA86420
  | .num i => PySem.hashInt i
  | .text _ => 0
  | .tup ks => PySem.reduceHash (PySem.Builtin.Tuple.tupleHashOf (hashes0 ks))
def hashes0 : List PySem.NestedKey → List Int
  | [] => []
  | k :: ks => hash0 k :: hashes0 ks
end
inductive Ents : List Int → List V → List V → List DictEntry → Prop
  | nil : Ents [] [] [] []
  | cons {e : DictEntry} {k v : V} {hs : List Int} {ks vs : List V} {es : List DictEntry} : RelV k e.key → RelV v e.val → Ents hs ks vs es → Ents (e.hash :: hs) (k :: ks) (v :: vs) (e :: es)
/-- a dict's own object, entry by entry -/
def RawE (a : Addr) (hs : List Int) (kxs vxs : List V) : HO := .ext fun h => hs.length ≤ PySem.sizeLine ∧ (a == PySem.sysModules) = false ∧ ∃ (o : Obj) (es : Array DictEntry) (ep : Nat), h.get? a = some o ∧ o.ExactDict ∧ o.data = .dict es ep ∧ Ents hs kxs vxs es.toList
def DctU (a : Addr) (t : Bool) (ks : List D) (kxs vxs : List V) (o : HO) : Prop :=
  if t then o = RawE a (ks.map fun k => hash0 (nkD k)) kxs vxs ∧ (ks.map nkD).Nodup ∧ (∀ k ∈ ks, kOk k = true) ∧ vxs.length = ks.length else ∃ kvs : List (Key × V), o = .dK kvs ∧ kxs = kvs.map (fun p => kV p.1) ∧ vxs = kvs.map (·.2)
/-- .. locked: its very object -/
def DctO (a : Addr) (t : Bool) (ks : List D) (kxs vxs : List V) (o : HO) : Prop := ∃ (od : Obj) (u : HO), o = .frz od u ∧ DctU a t ks kxs vxs u
mutual
/-- v stands for d, by objects outside B -/
inductive Rep (pa : Option Addr) (B : AP) (H : Hp) : V → D → Prop
  | non : Rep pa B H .non .non
  | bl (b : Bool) : Rep pa B H (.bl b) (.bl b)
  | int (i : Int) : Rep pa B H (.int i) (.int i)
  | str (x : Str) : Rep pa B H (.str x) (.str x)
  | tup {a : Addr} {xs : List V} {ds : List D} : H a = some (.tup xs) → ¬ B a → RepL pa B H xs ds → Rep pa B H (.ref a) (.tup ds)
  | lst {a : Addr} {xs : List V} {ds : List D} : H a = some (.lst xs) → ¬ B a → RepL pa B H xs ds → Rep pa B H (.ref a) (.lst ds)
  | pot {p : Addr} : pa = some p → Rep pa B H (.ref p) .pot
  | xt {a : Addr} {o : Obj} {xs : List V} {ds : List D} : H a = some (.frz o (.tup xs)) → o.dict = none → ¬ B a → RepL pa B H xs ds → Rep pa B H (.ref a) (.xt ds)
  | opq (a : Addr) : Rep pa B H (.ref a) (.opq a)
  | dct {a : Addr} {o : HO} {t : Bool} {ks vs : List D} {kxs vxs : List V} : H a = some o → DctO a t ks kxs vxs o → ¬ B a → RepL pa B H kxs ks → RepL pa B H vxs vs → Rep pa B H (.ref a) (.dct t ks vs)
inductive RepL (pa : Option Addr) (B : AP) (H : Hp) : List V → List D → Prop
  | nil : RepL pa B H [] []
  | cons {v : V} {d : D} {vs : List V} {ds : List D} : Rep pa B H v d → RepL pa B H vs ds → RepL pa B H (v :: vs) (d :: ds)
end

section
variable {pa : Option Addr} {B B' : AP} {H H' : Hp}
mutual
theorem Rep.keep (k : Keep B B' H H') : ∀ (d : D) {v : V}, Rep pa B H v d → Rep pa B' H' v d
  | .non, _, h => by cases h; exact .non
  | .bl _, _, h => by cases h; exact .bl _
  | .int _, _, h => by cases h; exact .int _
  | .str _, _, h => by cases h; exact .str _
  | .tup ds, _, h => by
    cases h with
    | tup h1 n h2 => exact .tup (k _ _ h1 n).1 (k _ _ h1 n).2 (RepL.keep k ds h2)
  | .lst ds, _, h => by
    cases h with
    | lst h1 n h2 => exact .lst (k _ _ h1 n).1 (k _ _ h1 n).2 (RepL.keep k ds h2)
  | .dct _ ks vs, _, h => by
    cases h with
    | dct h1 h2 n h3 h4 => exact .dct (k _ _ h1 n).1 h2 (k _ _ h1 n).2 (RepL.keep k ks h3) (RepL.keep k vs h4)
  | .set _, _, h => by cases h
  | .rng _ _, _, h => by cases h
  | .pot, _, h => by
    cases h with
    | pot e => exact .pot e
  | .exc _ _, _, h => by cases h
  | .clo _ _, _, h => by cases h
  | .xt ds, _, h => by
    cases h with
    | xt h1 h3 n h2 => exact .xt (k _ _ h1 n).1 h3 (k _ _ h1 n).2 (RepL.keep k ds h2)
  | .opq _, _, h => by cases h; exact .opq _
theorem RepL.keep (k : Keep B B' H H') : ∀ (ds : List D) {vs : List V}, RepL pa B H vs ds → RepL pa B' H' vs ds
  | [], _, h => by cases h; exact .nil
  | d :: ds, _, h => by
    cases h with
    | cons h1 h2 => exact .cons (Rep.keep k d h1) (RepL.keep k ds h2)
end
theorem Rep.kp {v : V} {d : D} (h : Rep pa B H v d) (k : Keep B B' H H') : Rep pa B' H' v d := Rep.keep k d h
theorem RepL.kp {vs : List V} {ds : List D} (h : RepL pa B H vs ds) (k : Keep B B' H H') : RepL pa B' H' vs ds := RepL.keep k ds h
/-- fewer forbidden ones -/
theorem Keep.less (l : ∀ a, B' a → B a) : Keep B B' H H := fun a _ h n => ⟨h, fun z => n (l a z)⟩
theorem RepL.length : ∀ {vs : List V} {ds : List D}, RepL pa B H vs ds → vs.length = ds.length
  | [], _, h => by cases h; rfl
  | _ :: _, _, h => by
    cases h with
    | cons h1 h2 => rw [List.length_cons, List.length_cons, RepL.length h2]
theorem RepL.get : ∀ {vs : List V} {ds : List D} {i : Nat} {d : D}, RepL pa B H vs ds → ds[i]? = some d → ∃ v, vs[i]? = some v ∧ Rep pa B H v d
  | _, [], i, d, h, e => by simp at e
  | _, d0 :: ds, 0, d, h, e => by
    cases h with
    | cons h1 h2 =>
      simp at e
      subst e
      exact ⟨_, rfl, h1⟩
  | _, d0 :: ds, i + 1, d, h, e => by
    cases h with
    | cons h1 h2 =>
      simp at e
      obtain ⟨v, e1, r⟩ := RepL.get h2 e
      exact ⟨v, by simpa using e1, r⟩
theorem RepL.append : ∀ {vs ws : List V} {ds es : List D}, RepL pa B H vs ds → RepL pa B H ws es → RepL pa B H (vs ++ ws) (ds ++ es)
  | [], _, _, _, h, h' => by cases h; exact h'
  | _ :: _, _, _, _, h, h' => by
    cases h with
    | cons h1 h2 => exact .cons h1 (RepL.append h2 h')
theorem RepL.take : ∀ {vs : List V} {ds : List D} (n : Nat), RepL pa B H vs ds → RepL pa B H (vs.take n) (ds.take n)
  | _, _, 0, h => by simp; exact .nil
  | [], _, n + 1, h => by cases h; simp; exact .nil
  | _ :: _, _, n + 1, h => by
    cases h with
    | cons h1 h2 => simp; exact .cons h1 (RepL.take n h2)
theorem RepL.drop : ∀ {vs : List V} {ds : List D} (n : Nat), RepL pa B H vs ds → RepL pa B H (vs.drop n) (ds.drop n)
  | _, _, 0, h => by simpa using h
  | [], _, n + 1, h => by cases h; simp; exact .nil
  | _ :: _, _, n + 1, h => by
    cases h with
    | cons h1 h2 => simp; exact RepL.drop n h2
theorem RepL.reverse : ∀ {vs : List V} {ds : List D}, RepL pa B H vs ds → RepL pa B H vs.reverse ds.reverse
  | [], _, h => by cases h; exact .nil
  | _ :: _, _, h => by
    cases h with
    | cons h1 h2 =>
      rw [List.reverse_cons, List.reverse_cons]
      exact RepL.append (RepL.reverse h2) (.cons h1 .nil)
theorem RepL.set : ∀ {vs : List V} {ds : List D} {v : V} {d : D} (i : Nat), Rep pa B H v d → RepL pa B H vs ds → RepL pa B H (vs.set i v) (ds.set i d)
  | [], _, v, d, i, r, h => by cases h; exact .nil
  | _ :: _, _, v, d, 0, r, h => by
    cases h with
    | cons h1 h2 => exact .cons r h2
  | _ :: _, _, v, d, i + 1, r, h => by
    cases h with
    | cons h1 h2 => exact .cons h1 (RepL.set i r h2)
theorem RepL.erase : ∀ {vs : List V} {ds : List D} (i : Nat), RepL pa B H vs ds → RepL pa B H (vs.eraseIdx i) (ds.eraseIdx i)
  | [], _, i, h => by cases h; exact .nil
  | _ :: _, _, 0, h => by
    cases h with
    | cons h1 h2 => exact h2
  | _ :: _, _, i + 1, h => by
    cases h with
    | cons h1 h2 => exact .cons h1 (RepL.erase i h2)
theorem RepL.ints : ∀ {vs : List V} {ns : List Int}, RepL pa B H vs (ns.map D.int) → vs = ns.map V.int
  | _, [], h => by
    cases h
    rfl
  | _, n :: ns, h => by
    cases h with
    | cons h1 h2 =>
      cases h1
      rw [RepL.ints h2]
      rfl
theorem RepL.of_ints : ∀ (ns : List Int), RepL pa B H (ns.map V.int) (ns.map D.int)
  | [] => .nil
  | n :: ns => .cons (.int n) (RepL.of_ints ns)
theorem RepL.bls : ∀ {vs : List V} {ns : List Bool}, RepL pa B H vs (ns.map D.bl) → vs = ns.map V.bl
  | _, [], h => by
    cases h
    rfl
  | _, n :: ns, h => by
    cases h with
    | cons h1 h2 =>
      cases h1
      rw [RepL.bls h2]
      rfl
end

/-! ### data as the library's data -/
mutual
def D.py : D → PyData
  | .non => .none
  | .bl b => .bool b
  | .int i => .int i
  | .str s => .str s
  | .tup xs => .tuple (D.pyL xs)
  | .lst xs => .list (D.pyL xs)
  | .xt xs => .tuple (D.pyL xs)
  | _ => .none
def D.pyL : List D → List PyData
  | [] => []
  | d :: ds => d.py :: D.pyL ds
end
mutual
/-- plain data: none, bools, ints, texts, tuples and lists of these, at most so deep -/
def D.pl : Nat → D → Bool
  | _, .non => true
  | _, .bl _ => true
  | _, .int _ => true
  | _, .str s => PyData.strOk s
  | n + 1, .tup xs => D.plL n xs
  | n + 1, .lst xs => D.plL n xs
  | n + 1, .xt xs => D.plL n xs
  | _, _ => false
def D.plL : Nat → List D → Bool
  | _, [] => true
  | n, d :: ds => D.pl n d && D.plL n ds
end
section
variable {K : Frag} {pa : Option Addr} {B : AP} {H : Hp}
mutual
theorem Rep.dp : ∀ (d : D) (n : Nat) {v : V}, D.pl n d = true → Rep pa B H v d → Dp K H v d.py
  | .non, _, _, _, h => by cases h; exact .non
  | .bl _, _, _, _, h => by cases h; exact .bl _
  | .int _, _, _, _, h => by cases h; exact .int _
  | .str _, _, _, _, h => by cases h; exact .str _
  | .tup ds, n, _, p, h => by
    cases n with
    | zero => simp [D.pl] at p
    | succ n =>
      cases h with
      | tup h1 _ h2 => exact .tup (SqT.of h1) (RepL.dp ds n (by simpa [D.pl] using p) h2)
  | .lst ds, n, _, p, h => by
    cases n with
    | zero => simp [D.pl] at p
    | succ n =>
      cases h with
      | lst h1 _ h2 => exact .lst (SqL.of h1) (RepL.dp ds n (by simpa [D.pl] using p) h2)
  | .dct _ _ _, n, _, p, h => by cases n <;> simp [D.pl] at p
  | .set _, _, _, _, h => by cases h
  | .rng _ _, _, _, _, h => by cases h
  | .pot, n, _, p, h => by cases n <;> simp [D.pl] at p
  | .exc _ _, _, _, _, h => by cases h
  | .clo _ _, _, _, _, h => by cases h
  | .xt ds, n, _, p, h => by
    cases n with
    | zero => simp [D.pl] at p
    | succ n =>
      cases h with
      | xt h1 _ _ h2 => exact .tup (.inl (.inr ⟨_, h1⟩)) (RepL.dp ds n (by simpa [D.pl] using p) h2)
  | .opq _, n, _, p, h => by cases n <;> simp [D.pl] at p
theorem RepL.dp : ∀ (ds : List D) (n : Nat) {vs : List V}, D.plL n ds = true → RepL pa B H vs ds → DpAll K H vs (D.pyL ds)
  | [], _, _, _, h => by cases h; exact .nil
  | d :: ds, n, _, p, h => by
    cases h with
    | cons h1 h2 =>
      have p' : D.pl n d = true ∧ D.plL n ds = true := by simpa [D.plL] using p
      exact .cons (Rep.dp d n p'.1 h1) (RepL.dp ds n p'.2 h2)
end
mutual
theorem D.can : ∀ (d : D) (n : Nat), D.pl n d = true → PyData.canLay0 d.py = true ∧ d.py.depth ≤ n
  | .non, n, _ => ⟨rfl, Nat.zero_le _⟩
  | .bl _, n, _ => ⟨rfl, Nat.zero_le _⟩
  | .int _, n, _ => ⟨rfl, Nat.zero_le _⟩
  | .str s, n, p => ⟨by cases n <;> simpa [D.py, PyData.canLay0, D.pl] using p, Nat.zero_le _⟩
  | .tup ds, n, p => by
    cases n with
    | zero => simp [D.pl] at p
    | succ n =>
      obtain ⟨h1, h2⟩ := D.canL ds n (by simpa [D.pl] using p)
      exact ⟨by simpa [D.py, PyData.canLay0] using h1, by simpa [D.py, PyData.depth] using h2⟩
  | .lst ds, n, p => by
    cases n with
    | zero => simp [D.pl] at p
    | succ n =>
      obtain ⟨h1, h2⟩ := D.canL ds n (by simpa [D.pl] using p)
      exact ⟨by simpa [D.py, PyData.canLay0] using h1, by simpa [D.py, PyData.depth] using h2⟩
  | .dct _ _ _, n, p => by cases n <;> simp [D.pl] at p
  | .set _, n, p => by cases n <;> simp [D.pl] at p
  | .rng _ _, n, p => by cases n <;> simp [D.pl] at p
  | .pot, n, p => by cases n <;> simp [D.pl] at p
  | .exc _ _, n, p => by cases n <;> simp [D.pl] at p
  | .clo _ _, n, p => by cases n <;> simp [D.pl] at p
  | .xt ds, n, p => by
    cases n with
    | zero => simp [D.pl] at p
    | succ n =>
      obtain ⟨h1, h2⟩ := D.canL ds n (by simpa [D.pl] using p)
      exact ⟨by simpa [D.py, PyData.canLay0] using h1, by simpa [D.py, PyData.depth] using h2⟩
  | .opq _, n, p => by cases n <;> simp [D.pl] at p
theorem D.canL : ∀ (ds : List D) (n : Nat), D.plL n ds = true → PyData.canLayAll0 (D.pyL ds) = true ∧ PyData.depthAll (D.pyL ds) ≤ n
  | [], n, _ => ⟨rfl, Nat.zero_le _⟩
  | d :: ds, n, p => by
    have p' : D.pl n d = true ∧ D.plL n ds = true := by simpa [D.plL] using p
    obtain ⟨h1, h2⟩ := D.can d n p'.1
    obtain ⟨h3, h4⟩ := D.canL ds n p'.2
    refine ⟨by simp [D.pyL, PyData.canLayAll0, h1, h3], ?_⟩
    simp only [D.pyL, PyData.depthAll]
    exact Nat.max_le.mpr ⟨h2, h4⟩
end
theorem D.shaped {d : D} {n : Nat} (p : D.pl n d = true) (hn : n ≤ 64) : SeqAt.shaped d.py = true := by
  obtain ⟨h1, h2⟩ := D.can d n p
  unfold SeqAt.shaped
  rw [h1, Bool.true_and]
  exact decide_eq_true (Nat.le_trans h2 hn)
end

/-! ### the pot, the slots -/
structure Pt where
  a : Int
  b : Int
  c : Int
  deriving Inhabited
/-- what a slot holds: nothing, a value, a list that nothing else holds -/
inductive SV where
  | un | val (d : D) | own (ds : List D) | od (t : Bool) (ks vs : List D)
  deriving Inhabited
def SV.ow : SV → Bool
  | .own _ => true
  | .od _ _ _ => true
  | _ => false
/-- a slot's own object -/
def SV.rp (pa : Option Addr) (B : AP) (H : Hp) (a : Addr) : SV → Prop
  | .own ds => ∃ vs, H a = some (.lst vs) ∧ RepL pa B H vs ds
  | .od t ks vs => ∃ o kxs vxs, H a = some o ∧ DctO a t ks kxs vxs o ∧ RepL pa B H kxs ks ∧ RepL pa B H vxs vs
  | _ => False
/-- a slot's own object, looked at -/
def SV.bd : SV → Option D
  | .own ds => some (.lst ds)
  | .od t ks vs => some (.dct t ks vs)
  | _ => none
theorem SV.bd_ow {x : SV} {d : D} (h : x.bd = some d) : x.ow = true := by
  cases x <;> first | rfl | cases h
theorem SV.rp.there {pa : Option Addr} {B : AP} {H : Hp} {a : Addr} {x : SV} (h : x.rp pa B H a) : ∃ o, H a = some o := by
  cases x with
  | own ds => obtain ⟨vs, h1, _⟩ := h; exact ⟨_, h1⟩
  | od t ks vs => obtain ⟨o, _, _, h1, _⟩ := h; exact ⟨_, h1⟩
  | _ => exact h.elim
theorem SV.rp.mv {pa : Option Addr} {B B' : AP} {H H' : Hp} {a : Addr} {x : SV} (h : x.rp pa B H a) (k : Keep B B' H H') (e : ∀ o, H a = some o → H' a = some o) : x.rp pa B' H' a := by
  cases x with
  | own ds => obtain ⟨vs, h1, h2⟩ := h; exact ⟨vs, e _ h1, h2.kp k⟩
  | od t ks vs => obtain ⟨o, kxs, vxs, h1, h2, h3, h4⟩ := h; exact ⟨o, kxs, vxs, e _ h1, h2, h3.kp k, h4.kp k⟩
  | _ => exact h.elim
structure St' where
  env : List SV
  pot : Pt
/-- fixed through a def's body: the written part, where the pot stands, the heap at the entry -/
structure Ct where
  K : Frag
  pa : Option Addr
  H0 : Hp
  xe : XK

def PotR (pa : Option Addr) (F : AP) (H : Hp) (P : Pt) : Prop := ∀ p, pa = some p → F p ∧ H p = some (.lst [.int P.a, .int P.b, .int P.c])
/-- the addresses of the lists that slots own -/
def Own (σ : L2.St) (env : List SV) : AP := fun a => ∃ (i : Nat) (x : SV), (env[i]? = some x ∧ x.ow = true) ∧ σ[i]? = some (some (V.ref a))
abbrev Bad (F : AP) (σ : L2.St) (env : List SV) : AP := fun a => F a ∨ Own σ env a

structure EnvR (c : Ct) (F : AP) (σ : L2.St) (H : Hp) (S : St') : Prop where
  len : σ.length = S.env.length
  dom : ∀ a, F a → H a ≠ none
  pot : PotR c.pa F H S.pot
  val : ∀ (i : Nat) (d : D), S.env[i]? = some (SV.val d) → ∃ v, σ[i]? = some (some v) ∧ Rep c.pa (Bad F σ S.env) H v d
  ow : ∀ (i : Nat) (x : SV), S.env[i]? = some x ∧ x.ow = true → ∃ a, σ[i]? = some (some (V.ref a)) ∧ x.rp c.pa (Bad F σ S.env) H a ∧ ¬ F a ∧ c.H0 a = none
  inj : ∀ (i j : Nat) (a : Addr) (x y : SV), S.env[i]? = some x ∧ x.ow = true → S.env[j]? = some y ∧ y.ow = true → σ[i]? = some (some (V.ref a)) → σ[j]? = some (some (V.ref a)) → i = j
  keep : ∀ a o, c.H0 a = some o → c.pa ≠ some a → H a = some o

/-- an expression's step: all but the pot stands as it stood -/
structure StepE (pa : Option Addr) (H H' : Hp) : Prop where
  keep : ∀ a o, H a = some o → pa ≠ some a → H' a = some o
  dom : ∀ a, H a ≠ none → H' a ≠ none
theorem StepE.refl (pa : Option Addr) (H : Hp) : StepE pa H H := ⟨fun _ _ h _ => h, fun _ h => h⟩
theorem StepE.trans {pa : Option Addr} {H H1 H2 : Hp} (a : StepE pa H H1) (b : StepE pa H1 H2) : StepE pa H H2 :=
  ⟨fun c o h n => b.keep c o (a.keep c o h n) n, fun c h => b.dom c (a.dom c h)⟩
theorem StepE.new {pa : Option Addr} {H : Hp} {p : Addr} {o : HO} (h : H p = none) : StepE pa H (upd H p o) := by
  refine ⟨fun a u e _ => ?_, fun a e => ?_⟩
  · rw [upd_ne (ne_of_none e h)]
    exact e
  · by_cases q : a = p
    · rw [q, upd_same]
      simp
    · rw [upd_ne q]
      exact e

section
variable {c : Ct} {F F' : AP} {σ : L2.St} {H H' : Hp} {S S' : St'}
theorem EnvR.own (I : EnvR c F σ H S) (i : Nat) (ds : List D) (e : S.env[i]? = some (SV.own ds)) : ∃ a vs, σ[i]? = some (some (V.ref a)) ∧ H a = some (.lst vs) ∧ RepL c.pa (Bad F σ S.env) H vs ds ∧ ¬ F a ∧ c.H0 a = none := by
  obtain ⟨a, h1, ⟨vs, h2, h3⟩, h4, h5⟩ := I.ow i _ ⟨e, rfl⟩
  exact ⟨a, vs, h1, h2, h3, h4, h5⟩
theorem EnvR.od (I : EnvR c F σ H S) (i : Nat) (t : Bool) (ks vs : List D) (e : S.env[i]? = some (SV.od t ks vs)) : ∃ a o kxs vxs, σ[i]? = some (some (V.ref a)) ∧ H a = some o ∧ DctO a t ks kxs vxs o ∧ RepL c.pa (Bad F σ S.env) H kxs ks ∧ RepL c.pa (Bad F σ S.env) H vxs vs ∧ ¬ F a ∧ c.H0 a = none := by
  obtain ⟨a, h1, ⟨o, kxs, vxs, h2, h3, h6, h7⟩, h4, h5⟩ := I.ow i _ ⟨e, rfl⟩
  exact ⟨a, o, kxs, vxs, h1, h2, h3, h6, h7, h4, h5⟩
theorem EnvR.notpot (I : EnvR c F σ H S) {a : Addr} (h : c.pa = some a) : F a := (I.pot a h).1
/-- what is told stays told over an expression's step -/
theorem EnvR.kp (I : EnvR c F σ H S) (s : StepE c.pa H H') : Keep (Bad F σ S.env) (Bad F σ S.env) H H' := fun a o h n =>
  ⟨s.keep a o h fun e => n (.inl (I.notpot e)), n⟩
theorem EnvR.step (I : EnvR c F σ H S) (s : StepE c.pa H H') {P : Pt} (p : PotR c.pa F H' P) : EnvR c F σ H' ⟨S.env, P⟩ where
  len := I.len
  dom := fun a h => s.dom a (I.dom a h)
  pot := p
  val := fun i d e => by
    obtain ⟨v, h1, h2⟩ := I.val i d e
    exact ⟨v, h1, h2.kp (I.kp s)⟩
  ow := fun i x e => by
    obtain ⟨a, h1, h2, h4, h5⟩ := I.ow i x e
    exact ⟨a, h1, h2.mv (I.kp s) fun o z => s.keep a _ z fun q => h4 (I.notpot q), h4, h5⟩
  inj := I.inj
  keep := fun a o h n => s.keep a o (I.keep a o h n) n
/-- .. where the pot stands as it stood -/
theorem EnvR.ext (I : EnvR c F σ H S) (k : ∀ a o, H a = some o → H' a = some o) : EnvR c F σ H' S := by
  have s : StepE c.pa H H' := ⟨fun a o h _ => k a o h, fun a h => by
    cases e : H a with
    | none => exact absurd e h
    | some o =>
      rw [k a o e]
      simp⟩
  exact I.step s fun p e => ⟨(I.pot p e).1, k _ _ (I.pot p e).2⟩
end
end Ev

set_option Elab.async false
set_option linter.all false
set_option maxRecDepth 100000
set_option maxHeartbeats 4000000
/-! Ev2: operations on data. -/
namespace Ev
open PySem PySem.Spec PyProof.Rows L2

/-- as Rep, but a list may be one that a slot owns -/
def RepB (pa : Option Addr) (B : AP) (H : Hp) (v : V) (d : D) : Prop := Rep pa B H v d ∨ ∃ a x, v = .ref a ∧ SV.bd x = some d ∧ x.rp pa B H a
inductive RepBL (pa : Option Addr) (B : AP) (H : Hp) : List V → List D → Prop
  | nil : RepBL pa B H [] []
  | cons {v : V} {d : D} {vs : List V} {ds : List D} : RepB pa B H v d → RepBL pa B H vs ds → RepBL pa B H (v :: vs) (d :: ds)
abbrev Dom (B : AP) (H : Hp) : Prop := ∀ a, B a → H a ≠ none
abbrev Ext (H H' : Hp) : Prop := ∀ a o, H a = some o → H' a = some o
theorem Ext.refl (H : Hp) : Ext H H := fun _ _ h => h
theorem Ext.new {H : Hp} {p : Addr} {o : HO} (h : H p = none) : Ext H (upd H p o) := fun a u e => by
  rw [upd_ne (ne_of_none e h)]
  exact e
theorem Ext.kp {B : AP} {H H' : Hp} (e : Ext H H') : Keep B B H H' := fun a o h n => ⟨e a o h, n⟩
/-- results of operations -/
def rP (g : List D → Option D) : List V → Hp → VK → Prop := fun xs H Q => ∃ pa B ds r, Dom B H ∧ RepBL pa B H xs ds ∧ g ds = some r ∧ ∀ v H', Ext H H' → Rep pa B H' v r → Q v H'
def r2P (g : D → D → Option D) : R2 := fun x y H Q => ∃ pa B d e r, Dom B H ∧ RepB pa B H x d ∧ RepB pa B H y e ∧ g d e = some r ∧ ∀ v H', Ext H H' → Rep pa B H' v r → Q v H'
def r1P (g : D → Option D) : V → Hp → VK → Prop := fun x H Q => ∃ pa B d r, Dom B H ∧ RepB pa B H x d ∧ g d = some r ∧ ∀ v H', Ext H H' → Rep pa B H' v r → Q v H'

section
variable {pa : Option Addr} {B : AP} {H H' : Hp}
theorem RepB.lst {v : V} {ds : List D} (h : RepB pa B H v (.lst ds)) : ∃ a xs, v = .ref a ∧ H a = some (.lst xs) ∧ RepL pa B H xs ds := by
  rcases h with h | ⟨a, x, e1, e2, e3⟩
  · cases h with
    | lst h1 _ h2 => exact ⟨_, _, rfl, h1, h2⟩
  · cases x with
    | own es =>
      cases e2
      obtain ⟨xs, e3, e4⟩ := e3
      exact ⟨a, xs, e1, e3, e4⟩
    | _ => cases e2
theorem RepB.dct {v : V} {t : Bool} {ks vs : List D} (h : RepB pa B H v (.dct t ks vs)) : ∃ a o kxs vxs, v = .ref a ∧ H a = some o ∧ DctO a t ks kxs vxs o ∧ RepL pa B H kxs ks ∧ RepL pa B H vxs vs := by
  rcases h with h | ⟨a, x, e1, e2, e3⟩
  · cases h with
    | dct h1 h2 _ h3 h4 => exact ⟨_, _, _, _, rfl, h1, h2, h3, h4⟩
  · cases x with
    | od t ks vs =>
      cases e2
      obtain ⟨o, kxs, vxs, h1, h2, h3, h4⟩ := e3
      exact ⟨a, o, kxs, vxs, e1, h1, h2, h3, h4⟩
    | _ => cases e2
theorem RepB.tup {v : V} {ds : List D} (h : RepB pa B H v (.tup ds)) : ∃ a xs, v = .ref a ∧ H a = some (.tup xs) ∧ ¬ B a ∧ RepL pa B H xs ds := by
  rcases h with h | ⟨a, x, e1, e2, e3⟩
  · cases h with
    | tup h1 n h2 => exact ⟨_, _, rfl, h1, n, h2⟩
  · cases x <;> cases e2
theorem RepB.xt {v : V} {ds : List D} (h : RepB pa B H v (.xt ds)) : ∃ a o xs, v = .ref a ∧ H a = some (.frz o (.tup xs)) ∧ o.dict = none ∧ ¬ B a ∧ RepL pa B H xs ds := by
  rcases h with h | ⟨a, x, e1, e2, e3⟩
  · cases h with
    | xt h1 h3 n h2 => exact ⟨_, _, _, rfl, h1, h3, n, h2⟩
  · cases x <;> cases e2
theorem RepB.int {v : V} {i : Int} (h : RepB pa B H v (.int i)) : v = .int i := by
  rcases h with h | ⟨a, x, e1, e2, e3⟩
  · cases h; rfl
  · cases x <;> cases e2
theorem RepB.bl {v : V} {i : Bool} (h : RepB pa B H v (.bl i)) : v = .bl i := by
  rcases h with h | ⟨a, x, e1, e2, e3⟩
  · cases h; rfl
  · cases x <;> cases e2
theorem RepB.str {v : V} {i : Str} (h : RepB pa B H v (.str i)) : v = .str i := by
  rcases h with h | ⟨a, x, e1, e2, e3⟩
  · cases h; rfl
  · cases x <;> cases e2
theorem RepB.non {v : V} (h : RepB pa B H v .non) : v = .non := by
  rcases h with h | ⟨a, x, e1, e2, e3⟩
  · cases h; rfl
  · cases x <;> cases e2
theorem RepB.kp {v : V} {d : D} (h : RepB pa B H v d) (k : Ext H H') : RepB pa B H' v d := by
  rcases h with h | ⟨a, x, e1, e2, e3⟩
  · exact .inl (h.kp (Ext.kp k))
  · exact .inr ⟨a, x, e1, e2, e3.mv (Ext.kp k) fun o z => k _ _ z⟩
theorem RepB.dp {K : Frag} {v : V} {d : D} {n : Nat} (p : D.pl n d = true) (h : RepB pa B H v d) : Dp K H v d.py := by
  rcases h with h | ⟨a, x, e1, e2, e3⟩
  · exact Rep.dp d n p h
  · subst e1
    cases x with
    | own es =>
      cases e2
      obtain ⟨xs, e3, e4⟩ := e3
      cases n with
      | zero => simp [D.pl] at p
      | succ n => exact .lst (SqL.of e3) (RepL.dp es n (by simpa [D.pl] using p) e4)
    | od t ks vs =>
      cases e2
      cases n <;> simp [D.pl] at p
    | _ => cases e2
theorem RepBL.one {vs : List V} {d : D} (h : RepBL pa B H vs [d]) : ∃ v, vs = [v] ∧ RepB pa B H v d := by
  cases h with
  | cons h1 h2 => cases h2; exact ⟨_, rfl, h1⟩
theorem RepBL.two {vs : List V} {d e : D} (h : RepBL pa B H vs [d, e]) : ∃ v u, vs = [v, u] ∧ RepB pa B H v d ∧ RepB pa B H u e := by
  cases h with
  | cons h1 h2 =>
    obtain ⟨u, rfl, r⟩ := h2.one
    exact ⟨_, _, rfl, h1, r⟩
theorem RepBL.three {vs : List V} {d e f : D} (h : RepBL pa B H vs [d, e, f]) : ∃ v u w, vs = [v, u, w] ∧ RepB pa B H v d ∧ RepB pa B H u e ∧ RepB pa B H w f := by
  cases h with
  | cons h1 h2 =>
    obtain ⟨u, w, rfl, r, q⟩ := h2.two
    exact ⟨_, _, _, rfl, h1, r, q⟩
theorem Dom.fresh (h : Dom B H) {p : Addr} (n : H p = none) : ¬ B p := fun b => h p b n
theorem Rep.newT (h : Dom B H) {p : Addr} (n : H p = none) {xs : List V} {ds : List D} (r : RepL pa B H xs ds) : Rep pa B (upd H p (.tup xs)) (.ref p) (.tup ds) :=
  .tup upd_same (Dom.fresh h n) (r.kp (Ext.kp (Ext.new n)))
theorem Rep.newL (h : Dom B H) {p : Addr} (n : H p = none) {xs : List V} {ds : List D} (r : RepL pa B H xs ds) : Rep pa B (upd H p (.lst xs)) (.ref p) (.lst ds) :=
  .lst upd_same (Dom.fresh h n) (r.kp (Ext.kp (Ext.new n)))
end

/-! ### operators -/
def LIM : Nat := 16777216
theorem lim_eq : sizeLine = LIM := sizeLine_eq
def addD : D → D → Option D
  | .int i, .int j => some (.int (i + j))
  | .tup xs, .tup ys => if xs.length + ys.length ≤ LIM then some (.tup (xs ++ ys)) else none
  | .lst xs, .lst ys => if xs.length + ys.length ≤ LIM then some (.lst (xs ++ ys)) else none
  | .str x, .str y => if x.length + y.length ≤ LIM then some (.str (x ++ y)) else none
  | _, _ => none
def subD : D → D → Option D
  | .int i, .int j => some (.int (i - j))
  | _, _ => none
theorem sm_is : ∃ v : Int, v = 18446744073709551616 := ⟨_, rfl⟩
/-- 2^64, which the kernel does not unfold -/
noncomputable def smO : Int := sm_is.choose
theorem smO_eq : smO = 18446744073709551616 := sm_is.choose_spec
theorem fd_is : ∃ v : Int, v = 1073741824 := ⟨_, rfl⟩
noncomputable def fdO : Int := fd_is.choose
theorem fdO_eq : fdO = 1073741824 := fd_is.choose_spec
theorem ml_is : ∃ v : Int, v = 1000000 := ⟨_, rfl⟩
noncomputable def mlO : Int := ml_is.choose
theorem mlO_eq : mlO = 1000000 := ml_is.choose_spec
noncomputable def small (i : Int) : Bool := decide (-smO < i) && decide (i < smO)
noncomputable def mulD : D → D → Option D
  | .int i, .int j => if small i || small j then some (.int (i * j)) else none
  | _, _ => none
noncomputable def fdivD : D → D → Option D
  | .int i, .int j => if 0 < j ∧ j < fdO then some (.int (i / j)) else none
  | _, _ => none
def modD : D → D → Option D
  | .int i, .int j => if 0 < j then some (.int (i % j)) else none
  | _, _ => none
/-- a small base -/
noncomputable def powD : D → D → Option D
  | .int i, .int j => if 0 ≤ j ∧ j ≤ 100 ∧ small i then some (.int (i ^ j.toNat)) else none
  | _, _ => none

section
variable {X : Cx}
theorem opD_add : OpR X (binaryOp .Add) (r2P addD) := by
  intro pins s σ H x y v u Q I rx ry h
  obtain ⟨pa, B, d, e, r, hd, h1, h2, g, q⟩ := h
  cases d with
  | int i =>
    cases e with
    | int j =>
      cases g
      have e1 := h1.int; subst e1
      have e2 := h2.int; subst e2
      exact op_add pins s σ H _ _ v u Q I rx ry ⟨i, j, rfl, rfl, q _ _ (Ext.refl _) (.int _)⟩
    | _ => cases g
  | str i =>
    cases e with
    | str j =>
      simp only [addD] at g
      split at g
      · rename_i hl
        cases g
        have e1 := h1.str; subst e1
        have e2 := h2.str; subst e2
        exact op_add_str pins s σ H _ _ v u Q I rx ry ⟨i, j, rfl, rfl, by rw [lim_eq]; exact hl, q _ _ (Ext.refl _) (.str _)⟩
      · cases g
    | _ => cases g
  | tup xs =>
    cases e with
    | tup ys =>
      simp only [addD] at g
      split at g
      · rename_i hl
        cases g
        obtain ⟨a, us, rfl, ha, na, ra⟩ := h1.tup
        obtain ⟨b, ws, rfl, hb, nb, rb⟩ := h2.tup
        refine op_catA pins s σ H _ _ v u Q I rx ry ⟨a, b, us, ws, rfl, rfl, SqT.of ha, SqT.of hb, by rw [ra.length, rb.length, lim_eq]; exact hl, ?_, ?_, ?_⟩
        · intro e1
          subst e1
          cases ra
          exact q _ _ (Ext.refl _) (.tup hb nb rb)
        · intro e1 e2
          subst e2
          cases rb
          refine q _ _ (Ext.refl _) ?_
          rw [List.append_nil]
          exact .tup ha na ra
        · intro e1 e2 p hp
          exact q _ _ (Ext.new hp) (Rep.newT hd hp (ra.append rb))
      · cases g
    | _ => cases g
  | lst xs =>
    cases e with
    | lst ys =>
      simp only [addD] at g
      split at g
      · rename_i hl
        cases g
        obtain ⟨a, us, rfl, ha, ra⟩ := h1.lst
        obtain ⟨b, ws, rfl, hb, rb⟩ := h2.lst
        refine op_cat pins s σ H _ _ v u Q I rx ry ⟨a, b, us, ws, rfl, rfl, ha, hb, by rw [ra.length, rb.length, lim_eq]; exact hl, fun p hp => ?_⟩
        exact q _ _ (Ext.new hp) (Rep.newL hd hp (ra.append rb))
      · cases g
    | _ => cases g
  | _ => cases e <;> cases g
theorem opD_sub : OpR X (binaryOp .Sub) (r2P subD) := by
  intro pins s σ H x y v u Q I rx ry h
  obtain ⟨pa, B, d, e, r, hd, h1, h2, g, q⟩ := h
  cases d with
  | int i =>
    cases e with
    | int j =>
      cases g
      have e1 := h1.int; subst e1
      have e2 := h2.int; subst e2
      exact op_sub pins s σ H _ _ v u Q I rx ry ⟨i, j, rfl, rfl, q _ _ (Ext.refl _) (.int _)⟩
    | _ => cases g
  | _ => cases e <;> cases g
theorem small_ok {i : Int} (h : small i = true) : -(2 ^ 64) < i ∧ i < 2 ^ 64 := by
  unfold small at h
  rw [smO_eq] at h
  simp only [Bool.and_eq_true, decide_eq_true_eq] at h
  omega
theorem opD_mul : OpR X (binaryOp .Mult) (r2P mulD) := by
  intro pins s σ H x y v u Q I rx ry h
  obtain ⟨pa, B, d, e, r, hd, h1, h2, g, q⟩ := h
  cases d with
  | int i =>
    cases e with
    | int j =>
      simp only [mulD] at g
      split at g
      · rename_i hl
        cases g
        have e1 := h1.int; subst e1
        have e2 := h2.int; subst e2
        refine op_mul pins s σ H _ _ v u Q I rx ry ⟨i, j, rfl, rfl, ?_, q _ _ (Ext.refl _) (.int _)⟩
        rcases Bool.or_eq_true_iff.mp hl with z | z
        · exact .inl (small_ok z)
        · exact .inr (small_ok z)
      · cases g
    | _ => cases g
  | _ => cases e <;> cases g
theorem opD_fdiv : OpR X (binaryOp .FloorDiv) (r2P fdivD) := by
  intro pins s σ H x y v u Q I rx ry h
  obtain ⟨pa, B, d, e, r, hd, h1, h2, g, q⟩ := h
  cases d with
  | int i =>
    cases e with
    | int j =>
      simp only [fdivD] at g
      split at g
      · rename_i hl
        rw [fdO_eq] at hl
        cases g
        have e1 := h1.int; subst e1
        have e2 := h2.int; subst e2
        exact op_fdiv pins s σ H _ _ v u Q I rx ry ⟨i, j, rfl, rfl, hl, q _ _ (Ext.refl _) (.int _)⟩
      · cases g
    | _ => cases g
  | _ => cases e <;> cases g
theorem opD_mod : OpR X (binaryOp .Mod) (r2P modD) := by
  intro pins s σ H x y v u Q I rx ry h
  obtain ⟨pa, B, d, e, r, hd, h1, h2, g, q⟩ := h
  cases d with
  | int i =>
    cases e with
    | int j =>
      simp only [modD] at g
      split at g
      · rename_i hl
        cases g
        have e1 := h1.int; subst e1
        have e2 := h2.int; subst e2
        exact op_mod pins s σ H _ _ v u Q I rx ry ⟨i, j, rfl, rfl, hl, q _ _ (Ext.refl _) (.int _)⟩
      · cases g
    | _ => cases g
  | _ => cases e <;> cases g
theorem opD_pow : OpR X (binaryOp .Pow) (r2P powD) := by
  intro pins s σ H x y v u Q I rx ry h
  obtain ⟨pa, B, d, e, r, hd, h1, h2, g, q⟩ := h
  cases d with
  | int i =>
    cases e with
    | int j =>
      simp only [powD] at g
      split at g
      · rename_i hl
        cases g
        have e1 := h1.int; subst e1
        have e2 := h2.int; subst e2
        have hs := small_ok hl.2.2
        exact op_pow pins s σ H _ _ v u Q I rx ry ⟨i, j, rfl, rfl, ⟨hl.1, by omega, by omega⟩, q _ _ (Ext.refl _) (.int _)⟩
      · cases g
    | _ => cases g
  | _ => cases e <;> cases g
end
inductive BOp where
  | add | sub | mul | fdiv | mod | pow
  deriving DecidableEq
def BOp.op : BOp → Operator
  | .add => .Add | .sub => .Sub | .mul => .Mult | .fdiv => .FloorDiv | .mod => .Mod | .pow => .Pow
noncomputable def binD0 : BOp → D → D → Option D
  | .add => addD | .sub => subD | .mul => mulD | .fdiv => fdivD | .mod => modD | .pow => powD
theorem opD_bin0 {X : Cx} : ∀ o : BOp, OpR X (binaryOp o.op) (r2P (binD0 o))
  | .add => opD_add | .sub => opD_sub | .mul => opD_mul | .fdiv => opD_fdiv | .mod => opD_mod | .pow => opD_pow

/-! ### comparisons -/
inductive COp where
  | eq | ne | lt | le | gt | ge | is_ | isnot | in_ | notin
  deriving DecidableEq
def COp.op : COp → CmpOp
  | .eq => .Eq | .ne => .NotEq | .lt => .Lt | .le => .LtE | .gt => .Gt | .ge => .GtE | .is_ => .Is | .isnot => .IsNot | .in_ => .In | .notin => .NotIn
def PL : Nat := 20
def eqD (d e : D) : Option Bool := if D.pl PL d && D.pl PL e then some (PyData.eqv d.py e.py) else none
def isNon : D → Bool
  | .non => true
  | _ => false
def ordOk (d e : D) : Bool := D.pl PL d && D.pl PL e && PySem.W.alike d.py e.py && !isNon d
def isD : D → D → Option Bool
  | d, .non => some (isNon d)
  | .bl a, .bl b => some (a == b)
  | _, _ => none
/-- flat things: an item of a list or tuple by == -/
def flatD : D → Bool
  | .non => true | .bl _ => true | .int _ => true | .str _ => true
  | _ => false
def inL (d : D) (ds : List D) : Option Bool := if flatD d && ds.all flatD then some (ds.any fun e => PyData.eqv e.py d.py) else none
def inD (d : D) : D → Option Bool
  | .tup ds => inL d ds
  | .lst ds => inL d ds
  | _ => none
def cmpB0 : COp → D → D → Option Bool
  | .eq, d, e => eqD d e
  | .ne, d, e => (eqD d e).map (!·)
  | .lt, d, e => if ordOk d e then some (PySem.W.dataLt d.py e.py) else none
  | .gt, d, e => if ordOk d e then some (PySem.W.dataLt e.py d.py) else none
  | .ge, d, e => if ordOk d e then some (!PySem.W.dataLt d.py e.py) else none
  | .le, d, e => if ordOk d e then some (!PySem.W.dataLt e.py d.py) else none
  | .is_, d, e => isD d e
  | .isnot, d, e => (isD d e).map (!·)
  | .in_, d, e => inD d e
  | .notin, d, e => (inD d e).map (!·)
def cmpD0 (o : COp) (d e : D) : Option D := (cmpB0 o d e).map D.bl
end Ev

set_option Elab.async false
set_option linter.all false
set_option maxRecDepth 100000
set_option maxHeartbeats 4000000
/-! Ev3: comparisons, items, slices, built-ins. -/
namespace Ev
open PySem PySem.Spec PyProof.Rows L2

section
variable {X : Cx} {pins : List (Addr × Obj)} {σ : L2.St} {H : Hp} {s : Shared} {pa : Option Addr} {B : AP}
theorem RepB.reads (I : Inv X pins σ H s) {v : V} {u : Value} {d : D} {n : Nat} (p : D.pl n d = true) (h : RepB pa B H v d) (r : RelV v u) : ∃ as, Reads s.heap u d.py as :=
  Dp.reads I d.py v u (RepB.dp p h) r
theorem RepL.reads (I : Inv X pins σ H s) {vs : List V} {us : List Value} {ds : List D} {n : Nat} (p : D.plL n ds = true) (h : RepL pa B H vs ds) (r : Vals vs us) : ∃ as, ReadsAll s.heap us (D.pyL ds) as :=
  Dp.readsAll I (D.pyL ds) vs us (RepL.dp ds n p h) r
theorem isNon_py {d : D} {n : Nat} (p : D.pl n d = true) (h : isNon d = false) : d.py ≠ .none := by
  cases d <;> first
    | (simp [isNon] at h; done)
    | (simp [D.py]; done)
    | (cases n <;> simp [D.pl] at p)
theorem pl_units {A : Around} {d e : D} (p : D.pl PL d = true) (hu : A.units + 64 < cLine) : A.units + min d.py.depth e.py.depth < cLine := by
  have h := (D.can d PL p).2
  have h2 : min d.py.depth e.py.depth ≤ d.py.depth := Nat.min_le_left _ _
  have h3 : PL = 20 := rfl
  omega
theorem flat_RepB {v : V} {d : D} (f : flatD d = true) (h : RepB pa B H v d) : flatV v = true ∧ ∀ w e, flatD e = true → RepB pa B H w e → eqV v w = PyData.eqv d.py e.py := by
  cases d with
  | non =>
    have e := h.non; subst e
    refine ⟨rfl, fun w e fe hw => ?_⟩
    cases e with
    | non => have := hw.non; subst this; rfl
    | bl b => have := hw.bl; subst this; rfl
    | int b => have := hw.int; subst this; rfl
    | str b => have := hw.str; subst this; rfl
    | _ => cases fe
  | bl a =>
    have e := h.bl; subst e
    refine ⟨rfl, fun w e fe hw => ?_⟩
    cases e with
    | non => have := hw.non; subst this; rfl
    | bl b => have := hw.bl; subst this; rfl
    | int b => have := hw.int; subst this; rfl
    | str b => have := hw.str; subst this; rfl
    | _ => cases fe
  | int a =>
    have e := h.int; subst e
    refine ⟨rfl, fun w e fe hw => ?_⟩
    cases e with
    | non => have := hw.non; subst this; rfl
    | bl b => have := hw.bl; subst this; rfl
    | int b => have := hw.int; subst this; rfl
    | str b => have := hw.str; subst this; rfl
    | _ => cases fe
  | str a =>
    have e := h.str; subst e
    refine ⟨rfl, fun w e fe hw => ?_⟩
    cases e with
    | non => have := hw.non; subst this; rfl
    | bl b => have := hw.bl; subst this; rfl
    | int b => have := hw.int; subst this; rfl
    | str b => have := hw.str; subst this; rfl
    | _ => cases fe
  | _ => cases f
theorem flat_RepL : ∀ {vs : List V} {ds : List D}, ds.all flatD = true → RepL pa B H vs ds → vs.all flatV = true ∧ ∀ w e, flatD e = true → RepB pa B H w e → (vs.any fun y => eqV y w) = ds.any fun y => PyData.eqv y.py e.py
  | [], _, f, h => by
    cases h
    exact ⟨rfl, fun _ _ _ _ => rfl⟩
  | v :: vs, _, f, h => by
    cases h with
    | cons h1 h2 =>
      simp only [List.all_cons, Bool.and_eq_true] at f
      obtain ⟨f1, g1⟩ := flat_RepB f.1 (.inl h1)
      obtain ⟨f2, g2⟩ := flat_RepL f.2 h2
      refine ⟨by simp [f1, f2], fun w e fe hw => ?_⟩
      simp only [List.any_cons]
      rw [g1 w e fe hw, g2 w e fe hw]
theorem opD_in (neg : Bool) : OpR X (compareOp (if neg then .NotIn else .In)) (r2P fun d e => (inD d e).map fun b => D.bl (if neg then !b else b)) := by
  intro pins s σ H x y v u Q I rx ry h
  obtain ⟨pa, B, d, e, r, hd, h1, h2, g, q⟩ := h
  obtain ⟨b, gb, rfl⟩ := Option.map_eq_some_iff.mp g
  have fin : ∀ (p : Addr) (xs : List V) (ds : List D), y = .ref p → (SqL X.K H p xs ∨ SqT X.K H p xs) → RepL pa B H xs ds → inL d ds = some b → rIn X.K neg x y H Q := by
    intro p xs ds ey hs hr hi
    unfold inL at hi
    split at hi
    · rename_i hf
      cases hi
      rw [Bool.and_eq_true] at hf
      obtain ⟨f1, g1⟩ := flat_RepB hf.1 h1
      obtain ⟨f2, g2⟩ := flat_RepL hf.2 hr
      refine ⟨p, xs, ey, hs, f1, f2, ?_⟩
      have e1 : inV x xs = ds.any fun y => PyData.eqv y.py d.py := g2 x d hf.1 h1
      rw [e1]
      exact q _ _ (Ext.refl _) (.bl _)
    · cases hi
  have go : rIn X.K neg x y H Q := by
    cases e with
    | tup ds =>
      obtain ⟨a, xs, rfl, ha, _, hr⟩ := h2.tup
      exact fin a xs ds rfl (.inr (SqT.of ha)) hr gb
    | lst ds =>
      obtain ⟨a, xs, rfl, ha, hr⟩ := h2.lst
      exact fin a xs ds rfl (.inl (SqL.of ha)) hr gb
    | _ => cases gb
  cases neg with
  | true => exact op_notIn_seq pins s σ H _ _ v u Q I rx ry go
  | false => exact op_in_seq pins s σ H _ _ v u Q I rx ry go
theorem opD_eq (hu : X.A.units + 64 < cLine) (neg : Bool) : OpR X (compareOp (if neg then .NotEq else .Eq)) (r2P fun d e => (eqD d e).map fun b => D.bl (if neg then !b else b)) := by
  intro pins s σ H x y v u Q I rx ry h
  obtain ⟨pa, B, d, e, r, hd, h1, h2, g, q⟩ := h
  obtain ⟨b, gb, rfl⟩ := Option.map_eq_some_iff.mp g
  unfold eqD at gb
  split at gb
  · rename_i hp
    cases gb
    rw [Bool.and_eq_true] at hp
    have d1 : Dp X.K H x d.py := RepB.dp hp.1 h1
    have d2 : Dp X.K H y e.py := RepB.dp hp.2 h2
    have s1 := D.shaped hp.1 (by decide)
    have s2 := D.shaped hp.2 (by decide)
    cases neg with
    | true => exact op_neD hu pins s σ H _ _ v u Q I rx ry ⟨d.py, e.py, d1, d2, s1, s2, q _ _ (Ext.refl _) (.bl _)⟩
    | false => exact op_eqD hu pins s σ H _ _ v u Q I rx ry ⟨d.py, e.py, d1, d2, s1, s2, q _ _ (Ext.refl _) (.bl _)⟩
  · cases gb
theorem opD_is (neg : Bool) : OpR X (compareOp (if neg then .IsNot else .Is)) (r2P fun d e => (isD d e).map fun b => D.bl (if neg then !b else b)) := by
  intro pins s σ H x y v u Q I rx ry h
  obtain ⟨pa, B, d, e, r, hd, h1, h2, g, q⟩ := h
  obtain ⟨b, gb, rfl⟩ := Option.map_eq_some_iff.mp g
  have go := q _ _ (Ext.refl _) (.bl _)
  cases e with
  | non =>
    have e2 := h2.non; subst e2
    have eb : decide (x = V.non) = b := by
      cases d with
      | non =>
        have e1 := h1.non; subst e1
        cases gb; rfl
      | _ =>
        cases gb
        refine decide_eq_false fun z => ?_
        subst z
        rcases h1 with h1 | ⟨a, x2, z, _⟩
        · cases h1
        · cases z
    rw [← eb] at go
    cases neg with
    | true => exact op_notN pins s σ H _ _ v u Q I rx ry ⟨rfl, go⟩
    | false => exact op_isN pins s σ H _ _ v u Q I rx ry ⟨rfl, go⟩
  | bl j =>
    cases d with
    | bl i =>
      have e1 := h1.bl; subst e1
      have e2 := h2.bl; subst e2
      have eb : decide (i = j) = b := by
        cases gb
        exact (Bool.beq_eq_decide_eq i j).symm
      rw [← eb] at go
      cases neg with
      | true => exact op_notBl pins s σ H _ _ v u Q I rx ry ⟨i, j, rfl, rfl, go⟩
      | false => exact op_isBl pins s σ H _ _ v u Q I rx ry ⟨i, j, rfl, rfl, go⟩
    | _ => cases gb
  | _ => cases d <;> cases gb
theorem rel_bl {Q : VK} {b : Bool} {H : Hp} (I : Inv X pins σ H s) (q : Q (.bl b) H) : EP X pins σ Q (.bool b) s := ⟨.bl b, H, I, rfl, q⟩
theorem opD_ord (hu : X.A.units + 64 < cLine) : ∀ o : COp, (o = .lt ∨ o = .le ∨ o = .gt ∨ o = .ge) → OpR X (compareOp o.op) (r2P (cmpD0 o)) := by
  intro o ho pins s σ H x y v u Q I rx ry h
  obtain ⟨pa, B, d, e, r, hd, h1, h2, g, q⟩ := h
  obtain ⟨b, gb, rfl⟩ := Option.map_eq_some_iff.mp g
  have go := q _ _ (Ext.refl _) (.bl b)
  have key : ∀ k : Bool, (if ordOk d e then some k else none) = some b → ordOk d e = true ∧ b = k := fun k z => by
    split at z
    · rename_i hc
      cases z
      exact ⟨hc, rfl⟩
    · cases z
  have fin : ∀ k : Bool, ordOk d e = true ∧ b = k → D.pl PL d = true ∧ D.pl PL e = true ∧ PySem.W.alike d.py e.py = true ∧ isNon d = false := fun k ⟨hc, _⟩ => by
    unfold ordOk at hc
    simp only [Bool.and_eq_true, Bool.not_eq_true'] at hc
    exact ⟨hc.1.1.1, hc.1.1.2, hc.1.2, hc.2⟩
  have go2 : ∀ k : Bool, ordOk d e = true ∧ b = k → ∃ as bs, Reads s.heap v d.py as ∧ Reads s.heap u e.py bs ∧ PySem.W.alike d.py e.py = true ∧ d.py ≠ .none ∧ X.A.units + min d.py.depth e.py.depth < cLine ∧ EP X pins σ Q (.bool k) s := fun k hk => by
    obtain ⟨p1, p2, al, nn⟩ := fin k hk
    obtain ⟨as, ra⟩ := RepB.reads I p1 h1 rx
    obtain ⟨bs, rb⟩ := RepB.reads I p2 h2 ry
    exact ⟨as, bs, ra, rb, al, isNon_py p1 nn, pl_units (e := e) p1 hu, by rw [← hk.2]; exact rel_bl I go⟩
  rcases ho with rfl | rfl | rfl | rfl
  · obtain ⟨as, bs, ra, rb, al, n1, un, z⟩ := go2 _ (key _ gb)
    exact PySem.W.lt_data ra rb al n1 un z
  · obtain ⟨as, bs, ra, rb, al, n1, un, z⟩ := go2 _ (key _ gb)
    exact PySem.W.le_data ra rb al n1 un z
  · obtain ⟨as, bs, ra, rb, al, n1, un, z⟩ := go2 _ (key _ gb)
    exact PySem.W.gt_data ra rb al n1 un z
  · obtain ⟨as, bs, ra, rb, al, n1, un, z⟩ := go2 _ (key _ gb)
    exact PySem.W.ge_data ra rb al n1 un z
theorem opD_cmp0 (hu : X.A.units + 64 < cLine) : ∀ o : COp, OpR X (compareOp o.op) (r2P (cmpD0 o))
  | .eq => by
    have h := opD_eq (X := X) hu false
    have e : (fun d e => (eqD d e).map fun b => D.bl (if false = true then !b else b)) = cmpD0 .eq := by
      funext d e
      simp [cmpD0, cmpB0]
    rw [e] at h
    exact h
  | .ne => by
    have h := opD_eq (X := X) hu true
    have e : (fun d e => (eqD d e).map fun b => D.bl (if true = true then !b else b)) = cmpD0 .ne := by
      funext d e
      simp [cmpD0, cmpB0]
      rfl
    rw [e] at h
    exact h
  | .lt => opD_ord hu .lt (.inl rfl)
  | .le => opD_ord hu .le (.inr (.inl rfl))
  | .gt => opD_ord hu .gt (.inr (.inr (.inl rfl)))
  | .ge => opD_ord hu .ge (.inr (.inr (.inr rfl)))
  | .is_ => by
    have h := opD_is (X := X) false
    have e : (fun d e => (isD d e).map fun b => D.bl (if false = true then !b else b)) = cmpD0 .is_ := by
      funext d e
      simp [cmpD0, cmpB0]
    rw [e] at h
    exact h
  | .isnot => by
    have h := opD_is (X := X) true
    have e : (fun d e => (isD d e).map fun b => D.bl (if true = true then !b else b)) = cmpD0 .isnot := by
      funext d e
      simp [cmpD0, cmpB0]
      rfl
    rw [e] at h
    exact h
  | .in_ => by
    have h := opD_in (X := X) false
    have e : (fun d e => (inD d e).map fun b => D.bl (if false = true then !b else b)) = cmpD0 .in_ := by
      funext d e
      simp [cmpD0, cmpB0]
    rw [e] at h
    exact h
  | .notin => by
    have h := opD_in (X := X) true
    have e : (fun d e => (inD d e).map fun b => D.bl (if true = true then !b else b)) = cmpD0 .notin := by
      funext d e
      simp [cmpD0, cmpB0]
      rfl
    rw [e] at h
    exact h
end

/-! ### items and slices -/
def idxD0 : D → D → Option D
  | .tup xs, .int i => atI xs i
  | .lst xs, .int i => atI xs i
  | .xt xs, .int i => atI xs i
  | _, _ => none
def cutD {α : Type} (xs : List α) (lo hi : Option Int) : List α := (xs.drop (HT.sIx xs.length 0 lo)).take (HT.sIx xs.length xs.length hi - HT.sIx xs.length 0 lo)
def slcD : D → Option Int → Option Int → Option D
  | .tup xs, lo, hi => some (.tup (cutD xs lo hi))
  | .lst xs, lo, hi => some (.lst (cutD xs lo hi))
  | _, _, _ => none
section
variable {X : Cx} {pa : Option Addr} {B : AP} {H : Hp}
theorem atI_rep {xs : List V} {ds : List D} {i : Int} {r : D} (h : RepL pa B H xs ds) (e : atI ds i = some r) : ∃ v, atI xs i = some v ∧ Rep pa B H v r := by
  unfold atI at e ⊢
  rw [← h.length] at e
  cases q : ixN xs.length i with
  | none =>
    rw [q] at e
    cases e
  | some j =>
    rw [q] at e
    exact h.get e
theorem ixD0 : IxR X (r2P idxD0) := by
  intro value slice pins s σ H x y v u Q I rx ry h hsub
  obtain ⟨pa, B, d, e, r, hd, h1, h2, g, q⟩ := h
  cases e with
  | int i =>
    have e2 := h2.int; subst e2
    cases d with
    | tup ds =>
      obtain ⟨a, xs, rfl, ha, _, hr⟩ := h1.tup
      obtain ⟨w, e3, r3⟩ := atI_rep hr g
      exact ix_tup value slice pins s σ H _ _ v u Q I rx ry ⟨a, xs, i, w, rfl, rfl, SqT.of ha, e3, q _ _ (Ext.refl _) r3⟩ hsub
    | lst ds =>
      obtain ⟨a, xs, rfl, ha, hr⟩ := h1.lst
      obtain ⟨w, e3, r3⟩ := atI_rep hr g
      exact ix_list value slice pins s σ H _ _ v u Q I rx ry ⟨a, xs, i, w, rfl, rfl, SqL.of ha, e3, q _ _ (Ext.refl _) r3⟩ hsub
    | xt ds =>
      obtain ⟨a, o, xs, rfl, ha, _, _, hr⟩ := h1.xt
      obtain ⟨w, e3, r3⟩ := atI_rep hr g
      exact ix_tup value slice pins s σ H _ _ v u Q I rx ry ⟨a, xs, i, w, rfl, rfl, .inl (.inr ⟨o, ha⟩), e3, q _ _ (Ext.refl _) r3⟩ hsub
    | _ => cases g
  | _ => cases d <;> cases g
def rSlP (g : D → Option Int → Option Int → Option D) : V → Option Int → Option Int → Hp → VK → Prop := fun x lo hi H Q => ∃ pa B d r, Dom B H ∧ RepB pa B H x d ∧ g d lo hi = some r ∧ ∀ v H', Ext H H' → Rep pa B H' v r → Q v H'
theorem cut_rep {xs : List V} {ds : List D} (h : RepL pa B H xs ds) (lo hi : Option Int) : RepL pa B H (cutV xs lo hi) (cutD ds lo hi) := by
  unfold cutV cutD
  rw [h.length]
  exact (h.drop _).take _
theorem slD : SlR X (rSlP slcD) := by
  intro pins s σ H x v vl vu lo hi sl Q I rx hs pl pu h
  obtain ⟨pa, B, d, r, hd, h1, g, q⟩ := h
  cases d with
  | tup ds =>
    obtain ⟨a, xs, rfl, ha, na, hr⟩ := h1.tup
    cases g
    refine sl_tupA pins s σ H _ v vl vu lo hi sl Q I rx hs pl pu ⟨a, xs, rfl, SqT.of ha, fun hw => ?_, fun hw p hp => ?_⟩
    · refine q _ _ (Ext.refl _) ?_
      have e : cutD ds lo hi = ds := by
        unfold cutD
        rw [hr.length] at hw
        rw [hw.1, hw.2, List.drop_zero, Nat.sub_zero, List.take_length]
      rw [e]
      exact .tup ha na hr
    · exact q _ _ (Ext.new hp) (Rep.newT hd hp (cut_rep hr lo hi))
  | lst ds =>
    obtain ⟨a, xs, rfl, ha, hr⟩ := h1.lst
    cases g
    exact sl_list pins s σ H _ v vl vu lo hi sl Q I rx hs pl pu ⟨a, xs, rfl, SqL.of ha, fun p hp => q _ _ (Ext.new hp) (Rep.newL hd hp (cut_rep hr lo hi))⟩
  | _ => cases g
end
end Ev

set_option Elab.async false
set_option linter.all false
set_option maxRecDepth 100000
set_option maxHeartbeats 4000000
/-! Ev4: built-ins on data. -/
namespace PySem
section
variable {prog : Program} {w : World} {A : Around} {E : Value → Shared → Prop} {s : Shared}

theorem F.ev_args_max2 (a b : Value) : argsOk "max" ⟨[a, b], []⟩ := by unfold argsOk; kernel_rfl
theorem ev_max2 {a b : Value} {Q : Value → Shared → Prop}
    (h : wpAny (model prog w) A.in1 (pyIter (.ref s.heap.objs.size)) (fun it s₂ => ∃ I fp wr G n P St H bt, it = .ref I ∧ WalksS prog w A.in1 I fp wr G n P St ∧ St 0 s₂ ∧ (∀ b ∈ fp, b < s₂.heap.objs.size) ∧ 0 < n ∧
      (∀ b o, H.get? b = some o → b ∉ wr) ∧ (∀ b o, H.get? b = some o → s₂.heap.get? b = some o) ∧ CmpIn prog w A.in1 .Gt H P bt ∧ ∀ v s', P (argBest bt (n - 1)) v → Moved wr G s₂ s' → Q v s') E
      { s with heap := s.heap.push { cls := .type "tuple", data := .seq #[a, b] } }) :
    wpAny (model prog w) A (call (.builtin "max") [a, b]) Q E s := by
  have hname : (toString "max" ++ toString ".loop" : String) = "max.loop" := by decide
  refine call_function_tree F.kind_max F.plain_max F.entry_max (F.ev_args_max2 _ _) ?_
  show wpAny _ A.in1 (Builtin.Builtins.bindParams "max" ["key", "default"] 0 ⟨[], []⟩ >>= _) _ _ s
  refine wpAny_bind (wpAny_of_eq (show Builtin.Builtins.bindParams "max" ["key", "default"] 0 ⟨[], []⟩ = pure [none, none] from rfl) ?_)
  show wpAny _ A.in1 (newTuple [a, b] >>= _) _ _ s
  refine wpAny_bind (wpAny_newObj_type ?_)
  refine wpAny_bind (wpAny_mono h (fun it s₂ h₂ => ?_) fun _ _ e => e)
  obtain ⟨I, fp, wr, G, n, P, St, H, bt, rfl, W, hst, hfp, hn, hw, hkeep, hcmp, hQ⟩ := h₂
  refine wpAny_bind (wpAny_newObj_type ?_)
  have hSf : s₂.heap.objs.size ∉ fp := fun hm => Nat.lt_irrefl _ (hfp _ hm)
  rw [hname]
  refine wpAny_pure ⟨plainId_quiet F.plain_max_loop _, codeAny_max_loop_firstH W H hw bt hcmp s₂.heap.objs.size hSf (fresh_in hkeep) _ hn (fun b o e => Heap.get?_push_of_some _ (hkeep b o e)) (W.frame 0 s₂ _ s₂.toks hst (Nat.le_refl _) fun b _ o e => Heap.get?_push_of_some _ e) (Heap.get?_push_size _ rfl) fun v s' hP hm => ?_⟩
  exact hQ v s' hP (Moved.drop_new (tk := s₂.toks) hm (Nat.le_refl _))

theorem F.ev_args_max3 (a b c : Value) : argsOk "max" ⟨[a, b, c], []⟩ := by unfold argsOk; kernel_rfl
theorem ev_max3 {a b c : Value} {Q : Value → Shared → Prop}
    (h : wpAny (model prog w) A.in1 (pyIter (.ref s.heap.objs.size)) (fun it s₂ => ∃ I fp wr G n P St H bt, it = .ref I ∧ WalksS prog w A.in1 I fp wr G n P St ∧ St 0 s₂ ∧ (∀ b ∈ fp, b < s₂.heap.objs.size) ∧ 0 < n ∧
      (∀ b o, H.get? b = some o → b ∉ wr) ∧ (∀ b o, H.get? b = some o → s₂.heap.get? b = some o) ∧ CmpIn prog w A.in1 .Gt H P bt ∧ ∀ v s', P (argBest bt (n - 1)) v → Moved wr G s₂ s' → Q v s') E
      { s with heap := s.heap.push { cls := .type "tuple", data := .seq #[a, b, c] } }) :
    wpAny (model prog w) A (call (.builtin "max") [a, b, c]) Q E s := by
  have hname : (toString "max" ++ toString ".loop" : String) = "max.loop" := by decide
  refine call_function_tree F.kind_max F.plain_max F.entry_max (F.ev_args_max3 _ _ _) ?_
  show wpAny _ A.in1 (Builtin.Builtins.bindParams "max" ["key", "default"] 0 ⟨[], []⟩ >>= _) _ _ s
  refine wpAny_bind (wpAny_of_eq (show Builtin.Builtins.bindParams "max" ["key", "default"] 0 ⟨[], []⟩ = pure [none, none] from rfl) ?_)
  show wpAny _ A.in1 (newTuple [a, b, c] >>= _) _ _ s
  refine wpAny_bind (wpAny_newObj_type ?_)
  refine wpAny_bind (wpAny_mono h (fun it s₂ h₂ => ?_) fun _ _ e => e)
  obtain ⟨I, fp, wr, G, n, P, St, H, bt, rfl, W, hst, hfp, hn, hw, hkeep, hcmp, hQ⟩ := h₂
  refine wpAny_bind (wpAny_newObj_type ?_)
  have hSf : s₂.heap.objs.size ∉ fp := fun hm => Nat.lt_irrefl _ (hfp _ hm)
  rw [hname]
  refine wpAny_pure ⟨plainId_quiet F.plain_max_loop _, codeAny_max_loop_firstH W H hw bt hcmp s₂.heap.objs.size hSf (fresh_in hkeep) _ hn (fun b o e => Heap.get?_push_of_some _ (hkeep b o e)) (W.frame 0 s₂ _ s₂.toks hst (Nat.le_refl _) fun b _ o e => Heap.get?_push_of_some _ e) (Heap.get?_push_size _ rfl) fun v s' hP hm => ?_⟩
  exact hQ v s' hP (Moved.drop_new (tk := s₂.toks) hm (Nat.le_refl _))

theorem F.ev_args_min2 (a b : Value) : argsOk "min" ⟨[a, b], []⟩ := by unfold argsOk; kernel_rfl
theorem ev_min2 {a b : Value} {Q : Value → Shared → Prop}
    (h : wpAny (model prog w) A.in1 (pyIter (.ref s.heap.objs.size)) (fun it s₂ => ∃ I fp wr G n P St H bt, it = .ref I ∧ WalksS prog w A.in1 I fp wr G n P St ∧ St 0 s₂ ∧ (∀ b ∈ fp, b < s₂.heap.objs.size) ∧ 0 < n ∧
      (∀ b o, H.get? b = some o → b ∉ wr) ∧ (∀ b o, H.get? b = some o → s₂.heap.get? b = some o) ∧ CmpIn prog w A.in1 .Lt H P bt ∧ ∀ v s', P (argBest bt (n - 1)) v → Moved wr G s₂ s' → Q v s') E
      { s with heap := s.heap.push { cls := .type "tuple", data := .seq #[a, b] } }) :
    wpAny (model prog w) A (call (.builtin "min") [a, b]) Q E s := by
  have hname : (toString "min" ++ toString ".loop" : String) = "min.loop" := by decide
  refine call_function_tree F.kind_min F.plain_min F.entry_min (F.ev_args_min2 _ _) ?_
  show wpAny _ A.in1 (Builtin.Builtins.bindParams "min" ["key", "default"] 0 ⟨[], []⟩ >>= _) _ _ s
  refine wpAny_bind (wpAny_of_eq (show Builtin.Builtins.bindParams "min" ["key", "default"] 0 ⟨[], []⟩ = pure [none, none] from rfl) ?_)
  show wpAny _ A.in1 (newTuple [a, b] >>= _) _ _ s
  refine wpAny_bind (wpAny_newObj_type ?_)
  refine wpAny_bind (wpAny_mono h (fun it s₂ h₂ => ?_) fun _ _ e => e)
  obtain ⟨I, fp, wr, G, n, P, St, H, bt, rfl, W, hst, hfp, hn, hw, hkeep, hcmp, hQ⟩ := h₂
  refine wpAny_bind (wpAny_newObj_type ?_)
  have hSf : s₂.heap.objs.size ∉ fp := fun hm => Nat.lt_irrefl _ (hfp _ hm)
  rw [hname]
  refine wpAny_pure ⟨plainId_quiet F.plain_min_loop _, codeAny_min_loop_firstH W H hw bt hcmp s₂.heap.objs.size hSf (fresh_in hkeep) _ hn (fun b o e => Heap.get?_push_of_some _ (hkeep b o e)) (W.frame 0 s₂ _ s₂.toks hst (Nat.le_refl _) fun b _ o e => Heap.get?_push_of_some _ e) (Heap.get?_push_size _ rfl) fun v s' hP hm => ?_⟩
  exact hQ v s' hP (Moved.drop_new (tk := s₂.toks) hm (Nat.le_refl _))

theorem F.ev_args_min3 (a b c : Value) : argsOk "min" ⟨[a, b, c], []⟩ := by unfold argsOk; kernel_rfl
theorem ev_min3 {a b c : Value} {Q : Value → Shared → Prop}
    (h : wpAny (model prog w) A.in1 (pyIter (.ref s.heap.objs.size)) (fun it s₂ => ∃ I fp wr G n P St H bt, it = .ref I ∧ WalksS prog w A.in1 I fp wr G n P St ∧ St 0 s₂ ∧ (∀ b ∈ fp, b < s₂.heap.objs.size) ∧ 0 < n ∧
      (∀ b o, H.get? b = some o → b ∉ wr) ∧ (∀ b o, H.get? b = some o → s₂.heap.get? b = some o) ∧ CmpIn prog w A.in1 .Lt H P bt ∧ ∀ v s', P (argBest bt (n - 1)) v → Moved wr G s₂ s' → Q v s') E
      { s with heap := s.heap.push { cls := .type "tuple", data := .seq #[a, b, c] } }) :
    wpAny (model prog w) A (call (.builtin "min") [a, b, c]) Q E s := by
  have hname : (toString "min" ++ toString ".loop" : String) = "min.loop" := by decide
  refine call_function_tree F.kind_min F.plain_min F.entry_min (F.ev_args_min3 _ _ _) ?_
  show wpAny _ A.in1 (Builtin.Builtins.bindParams "min" ["key", "default"] 0 ⟨[], []⟩ >>= _) _ _ s
  refine wpAny_bind (wpAny_of_eq (show Builtin.Builtins.bindParams "min" ["key", "default"] 0 ⟨[], []⟩ = pure [none, none] from rfl) ?_)
  show wpAny _ A.in1 (newTuple [a, b, c] >>= _) _ _ s
  refine wpAny_bind (wpAny_newObj_type ?_)
  refine wpAny_bind (wpAny_mono h (fun it s₂ h₂ => ?_) fun _ _ e => e)
  obtain ⟨I, fp, wr, G, n, P, St, H, bt, rfl, W, hst, hfp, hn, hw, hkeep, hcmp, hQ⟩ := h₂
  refine wpAny_bind (wpAny_newObj_type ?_)
  have hSf : s₂.heap.objs.size ∉ fp := fun hm => Nat.lt_irrefl _ (hfp _ hm)
  rw [hname]
  refine wpAny_pure ⟨plainId_quiet F.plain_min_loop _, codeAny_min_loop_firstH W H hw bt hcmp s₂.heap.objs.size hSf (fresh_in hkeep) _ hn (fun b o e => Heap.get?_push_of_some _ (hkeep b o e)) (W.frame 0 s₂ _ s₂.toks hst (Nat.le_refl _) fun b _ o e => Heap.get?_push_of_some _ e) (Heap.get?_push_size _ rfl) fun v s' hP hm => ?_⟩
  exact hQ v s' hP (Moved.drop_new (tk := s₂.toks) hm (Nat.le_refl _))
end
end PySem
namespace Ev
open PySem PySem.Spec PyProof.Rows L2

/-! ### min, max -/
def allAlike (ds : List D) : Bool := D.plL PL ds && ds.all fun d => !isNon d && ds.all fun e => PySem.W.alike d.py e.py
def bestL (f : D → D → Bool) : List D → Option D
  | [] => none
  | d :: ds => if allAlike (d :: ds) then some (ds.foldl (fun a y => if f y a then y else a) d) else none
def gtD (y a : D) : Bool := PySem.W.dataLt a.py y.py
def lessD (y a : D) : Bool := PySem.W.dataLt y.py a.py
theorem pyL_get : ∀ (ds : List D) (i : Nat), (D.pyL ds)[i]? = (ds[i]?).map D.py
  | [], i => by simp [D.pyL]
  | d :: ds, 0 => by simp [D.pyL]
  | d :: ds, i + 1 => by simp [D.pyL, pyL_get ds i]
theorem pyL_mem {ds : List D} {x : PyData} (h : x ∈ D.pyL ds) : ∃ d ∈ ds, x = d.py := by
  obtain ⟨i, hi⟩ := List.mem_iff_getElem?.mp h
  rw [pyL_get] at hi
  obtain ⟨d, e, rfl⟩ := Option.map_eq_some_iff.mp hi
  exact ⟨d, List.mem_of_getElem? e, rfl⟩
theorem pyL_len : ∀ ds : List D, (D.pyL ds).length = ds.length
  | [] => rfl
  | d :: ds => by simp [D.pyL, pyL_len ds]
theorem plL_mem {n : Nat} : ∀ {ds : List D}, D.plL n ds = true → ∀ d ∈ ds, D.pl n d = true
  | [], _, d, h => by cases h
  | e :: ds, p, d, h => by
    have p' : D.pl n e = true ∧ D.plL n ds = true := by simpa [D.plL] using p
    rcases List.mem_cons.mp h with rfl | h
    · exact p'.1
    · exact plL_mem p'.2 d h
theorem alikeAll_of {ds : List D} (h : allAlike ds = true) : PySem.W.AlikeAll (D.pyL ds) ∧ D.plL PL ds = true := by
  unfold allAlike at h
  simp only [Bool.and_eq_true, List.all_eq_true, Bool.not_eq_true'] at h
  obtain ⟨p, q⟩ := h
  refine ⟨⟨fun x hx y hy => ?_, fun x hx => ?_⟩, p⟩
  · obtain ⟨d, hd, rfl⟩ := pyL_mem hx
    obtain ⟨e, he, rfl⟩ := pyL_mem hy
    exact (q d hd).2 e he
  · obtain ⟨d, hd, rfl⟩ := pyL_mem hx
    exact isNon_py (plL_mem p d hd) (q d hd).1
theorem getD_pyL (ds : List D) (i : Nat) : (D.pyL ds).getD i .none = (ds.getD i .non).py := by
  rw [List.getD_eq_getElem?_getD, List.getD_eq_getElem?_getD, pyL_get]
  cases ds[i]? <;> rfl

section
variable {X : Cx} {pins : List (Addr × Obj)} {σ : L2.St} {H : Hp} {s : Shared} {pa : Option Addr} {B : AP}
theorem Vals.back : ∀ {xs : List V} {us : List Value} {i : Nat} {u : Value}, Vals xs us → us[i]? = some u → ∃ x, xs[i]? = some x ∧ RelV x u
  | _, _, i, u, .nil, e => by simp at e
  | _, _, 0, u, .cons r t, e => by
    simp at e
    subst e
    exact ⟨_, rfl, r⟩
  | _, _, i + 1, u, .cons r t, e => by
    obtain ⟨x, h1, h2⟩ := Vals.back (i := i) t (by simpa using e)
    exact ⟨x, by simpa using h1, h2⟩
/-- what the loop of max or min has found, as data -/
theorem best_fin {f : D → D → Bool} {d : D} {ds : List D} {xs : List V} {its : List Value} {g : PyData → PyData → Bool} (hg : ∀ a b : D, f a b = g a.py b.py) (hr : RepL pa B H xs (d :: ds)) (hv : Vals xs its) {v : Value}
    (hP : its[PySem.argBest (fun i j => g ((D.pyL (d :: ds)).getD i .none) ((D.pyL (d :: ds)).getD j .none)) ds.length]? = some v) :
    ∃ x, RelV x v ∧ Rep pa B H x (ds.foldl (fun a y => if f y a then y else a) d) := by
  have e1 : (fun i j => g ((D.pyL (d :: ds)).getD i .none) ((D.pyL (d :: ds)).getD j .none)) = fun i j => f ((d :: ds).getD i .non) ((d :: ds).getD j .non) := by
    funext i j
    rw [getD_pyL, getD_pyL, hg]
  rw [e1] at hP
  obtain ⟨h1, h2⟩ := PySem.W.argBest_fold f D.non d ds ds.length (Nat.le_refl _)
  rw [List.take_length] at h2
  obtain ⟨x, hx, rx⟩ := Vals.back hv hP
  have hlt : PySem.argBest (fun i j => f ((d :: ds).getD i .non) ((d :: ds).getD j .non)) ds.length < (d :: ds).length := by
    rw [List.length_cons]
    omega
  have e2 : (d :: ds)[PySem.argBest (fun i j => f ((d :: ds).getD i .non) ((d :: ds).getD j .non)) ds.length]? = some (ds.foldl (fun a y => if f y a then y else a) d) := by
    rw [← h2, List.getD_eq_getElem?_getD, List.getElem?_eq_getElem hlt]
    rfl
  obtain ⟨x', hx', rr⟩ := hr.get e2
  rw [hx] at hx'
  cases hx'
  exact ⟨x, rx, rr⟩
theorem pl_room {ds : List D} (hu : X.A.units + 64 < cLine) (p : D.plL PL ds = true) : X.A.units + 1 + PyData.depthAll (D.pyL ds) < cLine := by
  have h := (D.canL ds PL p).2
  have h3 : PL = 20 := rfl
  omega
theorem its_len {xs : List V} {its : List Value} {d : D} {ds : List D} (hv : Vals xs its) (hr : RepL pa B H xs (d :: ds)) : its.toArray.size = ds.length + 1 := by
  rw [List.size_toArray, ← hv.length, hr.length, List.length_cons]
/-- max of a list or tuple -/
theorem max_seq (hc : X.calm = true) (hu : X.A.units + 64 < cLine) (I : Inv X pins σ H s) {a : Addr} {xs : List V} {d : D} {ds : List D} {Q : VK} (ha : SqL X.K H a xs ∨ SqT X.K H a xs) (hr : RepL pa B H xs (d :: ds)) (hk : allAlike (d :: ds) = true)
    (q : ∀ x, Rep pa B H x (ds.foldl (fun a y => if gtD y a then y else a) d) → Q x H) : wpAny (model X.prog X.w) X.A (call (.builtin "max") [.ref a]) (EP X pins σ Q) X.xe s := by
  obtain ⟨al, pl⟩ := alikeAll_of hk
  have hh : X.A.handled = none := I.ok.hd hc
  rcases ha with ha | ha
  · obtain ⟨its, hv, hl, hz⟩ := I.list ha
    obtain ⟨as, rs⟩ := RepL.reads I pl hr hv
    have hn := its_len hv hr
    refine PySem.call_max_walkH (PySem.W.iter_listW (A := X.A.in1) hh hl.isList fun s₂ e W st hfp hw hk => ?_)
    refine ⟨_, _, _, _, _, _, _, s.heap, _, rfl, W, st, hfp, by omega, hw, hk, PySem.W.cmpIn_gt (A := X.A.in1) (vs := its.toArray) (by simpa using rs) al (by show X.A.units + 1 + _ < _; exact pl_room hu pl), fun v s' hP m => ?_⟩
    obtain ⟨h', tk, rfl, hk'⟩ := PySem.W.moved_old e rfl m
    have e1 : its.toArray.size - 1 = ds.length := by omega
    rw [e1] at hP
    obtain ⟨x, rx, rr⟩ := best_fin (f := gtD) (g := fun y a => PySem.W.dataLt a y) (fun _ _ => rfl) hr hv (by simpa using hP)
    exact ⟨x, H, I.kept hk', rx, q x rr⟩
  · obtain ⟨its, hv, hl, hz⟩ := I.tuple ha
    obtain ⟨as, rs⟩ := RepL.reads I pl hr hv
    have hn := its_len hv hr
    refine PySem.call_max_walkH (PySem.W.iter_tupleW (A := X.A.in1) hh (show s.heap.IsTuple a its.toArray from hl) fun s₂ e W st hfp hw hk => ?_)
    refine ⟨_, _, _, _, _, _, _, s.heap, _, rfl, W, st, hfp, by omega, hw, hk, PySem.W.cmpIn_gt (A := X.A.in1) (vs := its.toArray) (by simpa using rs) al (by show X.A.units + 1 + _ < _; exact pl_room hu pl), fun v s' hP m => ?_⟩
    obtain ⟨h', tk, rfl, hk'⟩ := PySem.W.moved_old e rfl m
    have e1 : its.toArray.size - 1 = ds.length := by omega
    rw [e1] at hP
    obtain ⟨x, rx, rr⟩ := best_fin (f := gtD) (g := fun y a => PySem.W.dataLt a y) (fun _ _ => rfl) hr hv (by simpa using hP)
    exact ⟨x, H, I.kept hk', rx, q x rr⟩
theorem min_seq (hc : X.calm = true) (hu : X.A.units + 64 < cLine) (I : Inv X pins σ H s) {a : Addr} {xs : List V} {d : D} {ds : List D} {Q : VK} (ha : SqL X.K H a xs ∨ SqT X.K H a xs) (hr : RepL pa B H xs (d :: ds)) (hk : allAlike (d :: ds) = true)
    (q : ∀ x, Rep pa B H x (ds.foldl (fun a y => if lessD y a then y else a) d) → Q x H) : wpAny (model X.prog X.w) X.A (call (.builtin "min") [.ref a]) (EP X pins σ Q) X.xe s := by
  obtain ⟨al, pl⟩ := alikeAll_of hk
  have hh : X.A.handled = none := I.ok.hd hc
  rcases ha with ha | ha
  · obtain ⟨its, hv, hl, hz⟩ := I.list ha
    obtain ⟨as, rs⟩ := RepL.reads I pl hr hv
    have hn := its_len hv hr
    refine PySem.call_min_walkH (PySem.W.iter_listW (A := X.A.in1) hh hl.isList fun s₂ e W st hfp hw hk => ?_)
    refine ⟨_, _, _, _, _, _, _, s.heap, _, rfl, W, st, hfp, by omega, hw, hk, PySem.W.cmpIn_lt (A := X.A.in1) (vs := its.toArray) (by simpa using rs) al (by show X.A.units + 1 + _ < _; exact pl_room hu pl), fun v s' hP m => ?_⟩
    obtain ⟨h', tk, rfl, hk'⟩ := PySem.W.moved_old e rfl m
    have e1 : its.toArray.size - 1 = ds.length := by omega
    rw [e1] at hP
    obtain ⟨x, rx, rr⟩ := best_fin (f := lessD) (g := fun y a => PySem.W.dataLt y a) (fun _ _ => rfl) hr hv (by simpa using hP)
    exact ⟨x, H, I.kept hk', rx, q x rr⟩
  · obtain ⟨its, hv, hl, hz⟩ := I.tuple ha
    obtain ⟨as, rs⟩ := RepL.reads I pl hr hv
    have hn := its_len hv hr
    refine PySem.call_min_walkH (PySem.W.iter_tupleW (A := X.A.in1) hh (show s.heap.IsTuple a its.toArray from hl) fun s₂ e W st hfp hw hk => ?_)
    refine ⟨_, _, _, _, _, _, _, s.heap, _, rfl, W, st, hfp, by omega, hw, hk, PySem.W.cmpIn_lt (A := X.A.in1) (vs := its.toArray) (by simpa using rs) al (by show X.A.units + 1 + _ < _; exact pl_room hu pl), fun v s' hP m => ?_⟩
    obtain ⟨h', tk, rfl, hk'⟩ := PySem.W.moved_old e rfl m
    have e1 : its.toArray.size - 1 = ds.length := by omega
    rw [e1] at hP
    obtain ⟨x, rx, rr⟩ := best_fin (f := lessD) (g := fun y a => PySem.W.dataLt y a) (fun _ _ => rfl) hr hv (by simpa using hP)
    exact ⟨x, H, I.kept hk', rx, q x rr⟩

theorem max_args2 (hc : X.calm = true) (hu : X.A.units + 64 < cLine) (I : Inv X pins σ H s) {xs : List V} {u1 u2 : Value} {d : D} {ds : List D} {Q : VK} (hv : Vals xs [u1, u2]) (hr : RepL pa B H xs (d :: ds)) (hk : allAlike (d :: ds) = true)
    (q : ∀ x, Rep pa B H x (ds.foldl (fun a y => if gtD y a then y else a) d) → Q x H) : wpAny (model X.prog X.w) X.A (call (.builtin "max") [u1, u2]) (EP X pins σ Q) X.xe s := by
  obtain ⟨al, pl⟩ := alikeAll_of hk
  have hh : X.A.handled = none := I.ok.hd hc
  obtain ⟨as, rs⟩ := RepL.reads I pl hr hv
  have hn := its_len hv hr
  have hT : (s.heap.push { cls := .type "tuple", data := .seq #[u1, u2] }).IsTuple s.heap.objs.size #[u1, u2] := ⟨_, Heap.get?_push_size _ rfl, rfl, 0, rfl⟩
  have kp : ∀ b o, s.heap.get? b = some o → (s.heap.push { cls := .type "tuple", data := .seq #[u1, u2] }).get? b = some o := fun b o e => Heap.get?_push_of_some _ e
  have rs' : ReadsAll (s.heap.push { cls := .type "tuple", data := .seq #[u1, u2] }) [u1, u2] (D.pyL (d :: ds)) as := ReadsAll.keeps kp rs
  refine PySem.ev_max2 (PySem.W.iter_tupleW (A := X.A.in1) (s := { s with heap := s.heap.push { cls := .type "tuple", data := .seq #[u1, u2] } }) hh hT fun s₂ e W st hfp hw hk => ?_)
  refine ⟨_, _, _, _, _, _, _, _, _, rfl, W, st, hfp, by simp, hw, hk, PySem.W.cmpIn_gt (A := X.A.in1) (s := { s with heap := s.heap.push { cls := .type "tuple", data := .seq #[u1, u2] } }) (vs := #[u1, u2]) (by simpa using rs') al (by show X.A.units + 1 + _ < _; exact pl_room hu pl), fun v s' hP m => ?_⟩
  obtain ⟨h', tk, rfl, hk'⟩ := PySem.W.moved_old (s := { s with heap := s.heap.push { cls := .type "tuple", data := .seq #[u1, u2] } }) e rfl m
  have e1 : (#[u1, u2] : Array Value).size - 1 = ds.length := by
    have hn' : (#[u1, u2] : Array Value).size = ds.length + 1 := hn
    omega
  rw [e1] at hP
  obtain ⟨x, rx, rr⟩ := best_fin (f := gtD) (g := fun y a => PySem.W.dataLt a y) (fun _ _ => rfl) hr hv (by simpa using hP)
  exact ⟨x, H, I.kept fun b o q => hk' b o (kp b o q), rx, q x rr⟩

theorem max_args3 (hc : X.calm = true) (hu : X.A.units + 64 < cLine) (I : Inv X pins σ H s) {xs : List V} {u1 u2 u3 : Value} {d : D} {ds : List D} {Q : VK} (hv : Vals xs [u1, u2, u3]) (hr : RepL pa B H xs (d :: ds)) (hk : allAlike (d :: ds) = true)
    (q : ∀ x, Rep pa B H x (ds.foldl (fun a y => if gtD y a then y else a) d) → Q x H) : wpAny (model X.prog X.w) X.A (call (.builtin "max") [u1, u2, u3]) (EP X pins σ Q) X.xe s := by
  obtain ⟨al, pl⟩ := alikeAll_of hk
  have hh : X.A.handled = none := I.ok.hd hc
  obtain ⟨as, rs⟩ := RepL.reads I pl hr hv
  have hn := its_len hv hr
  have hT : (s.heap.push { cls := .type "tuple", data := .seq #[u1, u2, u3] }).IsTuple s.heap.objs.size #[u1, u2, u3] := ⟨_, Heap.get?_push_size _ rfl, rfl, 0, rfl⟩
  have kp : ∀ b o, s.heap.get? b = some o → (s.heap.push { cls := .type "tuple", data := .seq #[u1, u2, u3] }).get? b = some o := fun b o e => Heap.get?_push_of_some _ e
  have rs' : ReadsAll (s.heap.push { cls := .type "tuple", data := .seq #[u1, u2, u3] }) [u1, u2, u3] (D.pyL (d :: ds)) as := ReadsAll.keeps kp rs
  refine PySem.ev_max3 (PySem.W.iter_tupleW (A := X.A.in1) (s := { s with heap := s.heap.push { cls := .type "tuple", data := .seq #[u1, u2, u3] } }) hh hT fun s₂ e W st hfp hw hk => ?_)
  refine ⟨_, _, _, _, _, _, _, _, _, rfl, W, st, hfp, by simp, hw, hk, PySem.W.cmpIn_gt (A := X.A.in1) (s := { s with heap := s.heap.push { cls := .type "tuple", data := .seq #[u1, u2, u3] } }) (vs := #[u1, u2, u3]) (by simpa using rs') al (by show X.A.units + 1 + _ < _; exact pl_room hu pl), fun v s' hP m => ?_⟩
  obtain ⟨h', tk, rfl, hk'⟩ := PySem.W.moved_old (s := { s with heap := s.heap.push { cls := .type "tuple", data := .seq #[u1, u2, u3] } }) e rfl m
  have e1 : (#[u1, u2, u3] : Array Value).size - 1 = ds.length := by
    have hn' : (#[u1, u2, u3] : Array Value).size = ds.length + 1 := hn
    omega
  rw [e1] at hP
  obtain ⟨x, rx, rr⟩ := best_fin (f := gtD) (g := fun y a => PySem.W.dataLt a y) (fun _ _ => rfl) hr hv (by simpa using hP)
  exact ⟨x, H, I.kept fun b o q => hk' b o (kp b o q), rx, q x rr⟩

theorem min_args2 (hc : X.calm = true) (hu : X.A.units + 64 < cLine) (I : Inv X pins σ H s) {xs : List V} {u1 u2 : Value} {d : D} {ds : List D} {Q : VK} (hv : Vals xs [u1, u2]) (hr : RepL pa B H xs (d :: ds)) (hk : allAlike (d :: ds) = true)
    (q : ∀ x, Rep pa B H x (ds.foldl (fun a y => if lessD y a then y else a) d) → Q x H) : wpAny (model X.prog X.w) X.A (call (.builtin "min") [u1, u2]) (EP X pins σ Q) X.xe s := by
  obtain ⟨al, pl⟩ := alikeAll_of hk
  have hh : X.A.handled = none := I.ok.hd hc
  obtain ⟨as, rs⟩ := RepL.reads I pl hr hv
  have hn := its_len hv hr
  have hT : (s.heap.push { cls := .type "tuple", data := .seq #[u1, u2] }).IsTuple s.heap.objs.size #[u1, u2] := ⟨_, Heap.get?_push_size _ rfl, rfl, 0, rfl⟩
  have kp : ∀ b o, s.heap.get? b = some o → (s.heap.push { cls := .type "tuple", data := .seq #[u1, u2] }).get? b = some o := fun b o e => Heap.get?_push_of_some _ e
  have rs' : ReadsAll (s.heap.push { cls := .type "tuple", data := .seq #[u1, u2] }) [u1, u2] (D.pyL (d :: ds)) as := ReadsAll.keeps kp rs
  refine PySem.ev_min2 (PySem.W.iter_tupleW (A := X.A.in1) (s := { s with heap := s.heap.push { cls := .type "tuple", data := .seq #[u1, u2] } }) hh hT fun s₂ e W st hfp hw hk => ?_)
  refine ⟨_, _, _, _, _, _, _, _, _, rfl, W, st, hfp, by simp, hw, hk, PySem.W.cmpIn_lt (A := X.A.in1) (s := { s with heap := s.heap.push { cls := .type "tuple", data := .seq #[u1, u2] } }) (vs := #[u1, u2]) (by simpa using rs') al (by show X.A.units + 1 + _ < _; exact pl_room hu pl), fun v s' hP m => ?_⟩
  obtain ⟨h', tk, rfl, hk'⟩ := PySem.W.moved_old (s := { s with heap := s.heap.push { cls := .type "tuple", data := .seq #[u1, u2] } }) e rfl m
  have e1 : (#[u1, u2] : Array Value).size - 1 = ds.length := by
    have hn' : (#[u1, u2] : Array Value).size = ds.length + 1 := hn
    omega
  rw [e1] at hP
  obtain ⟨x, rx, rr⟩ := best_fin (f := lessD) (g := fun y a => PySem.W.dataLt y a) (fun _ _ => rfl) hr hv (by simpa using hP)
  exact ⟨x, H, I.kept fun b o q => hk' b o (kp b o q), rx, q x rr⟩

theorem min_args3 (hc : X.calm = true) (hu : X.A.units + 64 < cLine) (I : Inv X pins σ H s) {xs : List V} {u1 u2 u3 : Value} {d : D} {ds : List D} {Q : VK} (hv : Vals xs [u1, u2, u3]) (hr : RepL pa B H xs (d :: ds)) (hk : allAlike (d :: ds) = true)
    (q : ∀ x, Rep pa B H x (ds.foldl (fun a y => if lessD y a then y else a) d) → Q x H) : wpAny (model X.prog X.w) X.A (call (.builtin "min") [u1, u2, u3]) (EP X pins σ Q) X.xe s := by
  obtain ⟨al, pl⟩ := alikeAll_of hk
  have hh : X.A.handled = none := I.ok.hd hc
  obtain ⟨as, rs⟩ := RepL.reads I pl hr hv
  have hn := its_len hv hr
  have hT : (s.heap.push { cls := .type "tuple", data := .seq #[u1, u2, u3] }).IsTuple s.heap.objs.size #[u1, u2, u3] := ⟨_, Heap.get?_push_size _ rfl, rfl, 0, rfl⟩
  have kp : ∀ b o, s.heap.get? b = some o → (s.heap.push { cls := .type "tuple", data := .seq #[u1, u2, u3] }).get? b = some o := fun b o e => Heap.get?_push_of_some _ e
  have rs' : ReadsAll (s.heap.push { cls := .type "tuple", data := .seq #[u1, u2, u3] }) [u1, u2, u3] (D.pyL (d :: ds)) as := ReadsAll.keeps kp rs
  refine PySem.ev_min3 (PySem.W.iter_tupleW (A := X.A.in1) (s := { s with heap := s.heap.push { cls := .type "tuple", data := .seq #[u1, u2, u3] } }) hh hT fun s₂ e W st hfp hw hk => ?_)
  refine ⟨_, _, _, _, _, _, _, _, _, rfl, W, st, hfp, by simp, hw, hk, PySem.W.cmpIn_lt (A := X.A.in1) (s := { s with heap := s.heap.push { cls := .type "tuple", data := .seq #[u1, u2, u3] } }) (vs := #[u1, u2, u3]) (by simpa using rs') al (by show X.A.units + 1 + _ < _; exact pl_room hu pl), fun v s' hP m => ?_⟩
  obtain ⟨h', tk, rfl, hk'⟩ := PySem.W.moved_old (s := { s with heap := s.heap.push { cls := .type "tuple", data := .seq #[u1, u2, u3] } }) e rfl m
  have e1 : (#[u1, u2, u3] : Array Value).size - 1 = ds.length := by
    have hn' : (#[u1, u2, u3] : Array Value).size = ds.length + 1 := hn
    omega
  rw [e1] at hP
  obtain ⟨x, rx, rr⟩ := best_fin (f := lessD) (g := fun y a => PySem.W.dataLt y a) (fun _ _ => rfl) hr hv (by simpa using hP)
  exact ⟨x, H, I.kept fun b o q => hk' b o (kp b o q), rx, q x rr⟩
end
end Ev

set_option Elab.async false
set_option linter.all false
set_option maxRecDepth 100000
set_option maxHeartbeats 4000000
/-! EvSet: set(xs) of a list of ints (turned from the layer's rule for tuples), then sorted. -/
namespace EvSet
open PySem PySem.Spec PyProof.Rows L2
/-- the empty set that set(..) lays first -/
abbrev nought (w : World) : Obj := { cls := .type "set", dict := none, data := .set #[] 0 (.fresh 0 0 (!w.params.followText "set-order")) }
section
variable {P : Program} {w : World} {A : Around} {E : Value → Shared → Prop} {s : Shared}
set_option maxHeartbeats 3200000 in
theorem call_set_listI {l : Addr} {items : Array Value} (ns : List Int) {Q : Value → Shared → Prop} (hh : A.handled = none) (hl : s.heap.IsList l items) (hit : IntsAre items.toList ns) (hb : ns.length + 1 < scanBound)
    (h : ∀ (h' : Heap) (tk c : Nat), SetR w h' s.heap.objs.size (fun j => decide (j ∈ ns)) c → c ≤ ns.length → (∀ b o, s.heap.get? b = some o → h'.get? b = some o) → Q (.ref s.heap.objs.size) { s with heap := h', toks := tk }) :
    wpAny (model P w) A (call (.type "set") [.ref l]) Q E s := by
  have hisz : items.size = ns.length := (Array.length_toList (xs := items)).symm.trans (IntsAre.length hit)
  obtain ⟨c, tl, hmro⟩ := F.called_set.mro
  have hmade := F.called_set.made
  have hsub := F.called_set.sub
  refine wpAny_call (codeAny_of_tree ?_)
  show wpAny _ _ (callAny (.type "set") _) _ _ _
  refine wpAny_pure ⟨Code.quiet_builtin _ (by decide +kernel), codeAny_builtin F.entry_type_call ?_⟩
  rw [Around.under_plain (weight_type_call_type "set" [.ref l] []) rfl]
  have h1 := F.called_set.notType
  have h2 := F.called_set.canCreate
  have hct := F.typeCall_set_1 (.ref l)
  repeat (any_goals (first | assumption | wp_step))
  refine codeAny_mono (code_set_led1 (.ref l) (E := E) (Q₁ := fun obj s₁ => obj = .ref s.heap.objs.size ∧ s₁ = { s with heap := s.heap.push (nought w) }) ⟨rfl, rfl⟩) fun r s₁ hr => ?_
  cases r with
  | error e => exact hr
  | ok fl =>
    cases fl with
    | ret obj =>
      obtain ⟨rfl, rfl⟩ := hr
      have hS : (s.heap.push (nought w)).get? s.heap.objs.size = some (nought w) := Heap.get?_push_size _ rfl
      have hT : Shared.TypeIs { s with heap := s.heap.push (nought w) } (.ref s.heap.objs.size) "set" := ⟨_, hS, rfl⟩
      have hli := F.called_set.init.lookup
      have hbi := F.called_set.init.bind (.ref s.heap.objs.size)
      repeat (any_goals (first | assumption | wp_step))
      refine codeAny_mono (codeAny_call_builtin (R := wants (fun r s₂ => r = .none ∧ ∃ h' tk c, s₂ = { s with heap := h', toks := tk } ∧ SetR w h' s.heap.objs.size (fun j => decide (j ∈ ns)) c ∧ c ≤ ns.length ∧
          (∀ b o, s.heap.get? b = some o → h'.get? b = some o)) E) F.called_set.init.plain F.entry_set_init (check_set_init_1 hT ?_)) fun r₂ s₂ hr₂ => ?_
      · obtain ⟨ol, hol, hcl, nl, hdl⟩ := hl
        obtain ⟨ocls, odict, odata, oslots⟩ := ol
        simp only at hcl hdl
        subst hcl; subst hdl
        have hol' : (s.heap.push (nought w)).get? l = some { cls := .type "list", dict := odict, data := .seq items nl, slots := oslots } := Heap.get?_push_of_some _ hol
        have hsls := F.sub_list_set
        have hslf := F.sub_list_frozenset
        have hne : (Value.type "list" == Value.type "dict") = false := by decide
        have hl1 : (s.heap.push (nought w)).IsList l items := ⟨_, hol', rfl, nl, rfl⟩
        unfold Builtin.«set.__init__» noKeywords Builtin.Frozenset.updateFrom
        generalize hPI : pyIter = PI
        wp_walk
        subst hPI
        refine wpAny_pyIter_list hl1 ?_
        refine wpAny_bind (wpAny_runValue ?_)
        have hlS : l < s.heap.objs.size := Heap.lt_size hol
        have hh3 : A.in1.in1.in1.handled = none := by simp [hh]
        have hneI : l ≠ (s.heap.push (nought w)).objs.size := by
          rw [Heap.size_push]; exact Nat.ne_of_lt (Nat.lt_succ_of_lt hlS)
        have hSf : s.heap.objs.size ∉ [(s.heap.push (nought w)).objs.size, l] := by
          rw [Heap.size_push]; simp only [List.mem_cons, List.mem_singleton, List.not_mem_nil, or_false, not_or]
          exact ⟨Nat.ne_of_lt (Nat.lt_succ_self _), Nat.ne_of_gt hlS⟩
        have hval : ∀ (i : Nat) (v : Value), items[i]? = some v → ∃ k t, ns[i]? = some k ∧ v = .int k t := fun i v hv => by
          have hi : i < ns.length := by rw [← hisz]; exact (Array.getElem?_eq_some_iff.mp hv).1
          obtain ⟨t, e⟩ := PyProof.Rows.IntsAre.int_at hit i v (by rw [Array.getElem?_toList]; exact hv)
          refine ⟨ns[i], t, List.getElem?_eq_getElem hi, ?_⟩
          rw [e, List.getD_eq_getElem?_getD, List.getElem?_eq_getElem hi] <;> rfl
        refine set_update_ints ((Walks.list hh3 _ l hneI items).toS) s.heap.objs.size
          hSf ns hisz hb hval (items.size - 0) 0 _ (by omega) (Nat.zero_le _)
          ⟨⟨_, Heap.get?_push_size _ rfl, rfl, rfl⟩, (hl1.push _)⟩ ?hS0 ?hR
        case hS0 =>
          have hget : ((s.heap.push (nought w)).push { cls := .type "list_iterator", data := .fields #[.ref l, .int 0 0] }).get? s.heap.objs.size = some (nought w) := Heap.get?_push_of_some _ hS
          exact ⟨0, Nat.le_refl 0, setR_new_at hget⟩
        case hR =>
          intro s' c' hm hc' hS'
          obtain ⟨h', g2, d', tk', os'⟩ := s'
          have eg : g2 = s.gens := hm.gens
          have ed : d' = s.drawn := hm.drawn
          have eo : os' = s.os := hm.os
          subst eg; subst ed; subst eo
          show wpAny _ _ _ _ _ _
          refine wpAny_pure ?_
          show wpAny _ _ (ret Value.none) _ _ _
          rw [hisz] at hc'
          refine wpAny_pure ⟨rfl, h', tk', c', rfl, hS', hc', fun b o e => ?_⟩
          have hb0 : b < s.heap.objs.size := Heap.lt_size e
          have hb2 : b ≠ (s.heap.push (nought w)).objs.size := by
            rw [Heap.size_push]; exact Nat.ne_of_lt (Nat.lt_succ_of_lt hb0)
          exact hm.heap b o (by simp only [List.mem_cons, List.mem_singleton, List.not_mem_nil, or_false, not_or]; exact ⟨Nat.ne_of_lt hb0, hb2⟩) (Heap.get?_push_of_some _ (Heap.get?_push_of_some _ e))
      · cases r₂ with
        | error e => exact hr₂
        | ok fl₂ =>
          cases fl₂ with
          | ret r =>
            obtain ⟨rfl, h', tk, c', rfl, hS', hc', hk'⟩ := hr₂
            repeat (any_goals (first | assumption | wp_step))
            exact h _ _ _ hS' hc' hk'
          | _ => exact hr₂.elim
    | _ => exact hr.elim
end
end EvSet

set_option Elab.async false
set_option linter.all false
set_option maxRecDepth 100000
set_option maxHeartbeats 4000000
/-! Ev5: built-in functions on data. -/
namespace Ev
open PySem PySem.Spec PyProof.Rows L2

/-! ### strictly rising lists -/
def insS (x : Int) : List Int → List Int
  | [] => [x]
  | y :: ys => if x < y then x :: y :: ys else if x = y then y :: ys else y :: insS x ys
def rise (ns : List Int) : List Int := ns.foldr insS []
theorem insS_mem (x k : Int) : ∀ ys : List Int, k ∈ insS x ys ↔ k = x ∨ k ∈ ys
  | [] => by simp [insS]
  | y :: ys => by
    unfold insS
    split
    · simp
    · split
      · rename_i h
        subst h
        simp
      · rw [List.mem_cons, insS_mem x k ys, List.mem_cons]
        constructor
        · rintro (h | h | h)
          · exact .inr (.inl h)
          · exact .inl h
          · exact .inr (.inr h)
        · rintro (h | h | h)
          · exact .inr (.inl h)
          · exact .inl h
          · exact .inr (.inr h)
theorem insS_up (x : Int) : ∀ ys : List Int, ys.Pairwise (· < ·) → (insS x ys).Pairwise (· < ·)
  | [], _ => by simp [insS]
  | y :: ys, h => by
    rw [List.pairwise_cons] at h
    unfold insS
    split
    · rename_i hx
      refine List.pairwise_cons.mpr ⟨fun z hz => ?_, List.pairwise_cons.mpr h⟩
      rcases List.mem_cons.mp hz with rfl | hz
      · exact hx
      · have := h.1 z hz
        omega
    · split
      · exact List.pairwise_cons.mpr h
      · refine List.pairwise_cons.mpr ⟨fun z hz => ?_, insS_up x ys h.2⟩
        rcases (insS_mem x z ys).mp hz with rfl | hz
        · omega
        · exact h.1 z hz
theorem rise_mem (k : Int) : ∀ ns : List Int, k ∈ rise ns ↔ k ∈ ns
  | [] => by simp [rise]
  | n :: ns => by
    show k ∈ insS n (rise ns) ↔ _
    rw [insS_mem, rise_mem k ns, List.mem_cons]
theorem rise_up : ∀ ns : List Int, (rise ns).Pairwise (· < ·)
  | [] => by simp [rise]
  | n :: ns => insS_up n (rise ns) (rise_up ns)
theorem up_unique : ∀ {xs ys : List Int}, xs.Pairwise (· < ·) → ys.Pairwise (· < ·) → (∀ k, k ∈ xs ↔ k ∈ ys) → xs = ys
  | [], [], _, _, _ => rfl
  | [], y :: ys, _, _, h => by
    have := (h y).mpr List.mem_cons_self
    cases this
  | x :: xs, [], _, _, h => by
    have := (h x).mp List.mem_cons_self
    cases this
  | x :: xs, y :: ys, hx, hy, h => by
    rw [List.pairwise_cons] at hx hy
    have e : x = y := by
      rcases List.mem_cons.mp ((h x).mp List.mem_cons_self) with e | e
      · exact e
      · rcases List.mem_cons.mp ((h y).mpr List.mem_cons_self) with e' | e'
        · exact e'.symm
        · have h1 := hy.1 x e
          have h2 := hx.1 y e'
          omega
    subst e
    rw [up_unique hx.2 hy.2 fun k => ?_]
    constructor
    · intro hk
      rcases List.mem_cons.mp ((h k).mp (List.mem_cons_of_mem _ hk)) with e | e
      · subst e
        exact absurd (hx.1 k hk) (Int.lt_irrefl _)
      · exact e
    · intro hk
      rcases List.mem_cons.mp ((h k).mpr (List.mem_cons_of_mem _ hk)) with e | e
      · subst e
        exact absurd (hy.1 k hk) (Int.lt_irrefl _)
      · exact e

/-! ### lists of one kind -/
def intsOf : List D → Option (List Int)
  | [] => some []
  | .int i :: r => (intsOf r).map (i :: ·)
  | _ => none
def blsOf : List D → Option (List Bool)
  | [] => some []
  | .bl b :: r => (blsOf r).map (b :: ·)
  | _ => none
theorem intsOf_eq : ∀ {ds : List D} {ns : List Int}, intsOf ds = some ns → ds = ns.map D.int
  | [], ns, h => by
    cases h
    rfl
  | d :: ds, ns, h => by
    cases d with
    | int i =>
      obtain ⟨r, e, rfl⟩ := Option.map_eq_some_iff.mp h
      rw [intsOf_eq e]
      rfl
    | _ => cases h
theorem blsOf_eq : ∀ {ds : List D} {ns : List Bool}, blsOf ds = some ns → ds = ns.map D.bl
  | [], ns, h => by
    cases h
    rfl
  | d :: ds, ns, h => by
    cases d with
    | bl i =>
      obtain ⟨r, e, rfl⟩ := Option.map_eq_some_iff.mp h
      rw [blsOf_eq e]
      rfl
    | _ => cases h
@[simp] theorem intsOf_map : ∀ ns : List Int, intsOf (ns.map D.int) = some ns
  | [] => rfl
  | n :: ns => by simp [intsOf, intsOf_map ns]
@[simp] theorem blsOf_map : ∀ ns : List Bool, blsOf (ns.map D.bl) = some ns
  | [] => rfl
  | n :: ns => by simp [blsOf, blsOf_map ns]

/-! ### the functions -/
def isLst : D → Bool
  | .lst _ => true
  | .dct _ _ _ => true
  | _ => false
def lenF0 : List D → Option D
  | [.tup xs] => some (.int xs.length)
  | [.lst xs] => some (.int xs.length)
  | [.xt xs] => some (.int xs.length)
  | _ => none
def absF : List D → Option D
  | [.int i] => some (.int (if i < 0 then -i else i))
  | _ => none
def intF : List D → Option D
  | [.int i] => some (.int i)
  | [.bl b] => some (.int (if b then 1 else 0))
  | _ => none
def tupleF : List D → Option D
  | [.tup xs] => some (.tup xs)
  | [.lst xs] => some (.tup xs)
  | _ => none
/-- as tupleF; the new tuple's object stays known -/
def tupxF : List D → Option D
  | [.lst xs] => some (.xt xs)
  | _ => none
def listF : List D → Option D
  | [.tup xs] => some (.lst xs)
  | [.lst xs] => some (.lst xs)
  | _ => none
def allF : List D → Option D
  | [.lst xs] => (blsOf xs).map fun bs => .bl (bs.all id)
  | _ => none
def anyF : List D → Option D
  | [.lst xs] => (blsOf xs).map fun bs => .bl (bs.any id)
  | _ => none
def sumF : List D → Option D
  | [.lst xs] => (intsOf xs).map fun ns => .int ns.sum
  | [.tup xs] => (intsOf xs).map fun ns => .int ns.sum
  | _ => none
def bestF (f : D → D → Bool) : List D → Option D
  | [.lst xs] => bestL f xs
  | [.tup xs] => bestL f xs
  | [.xt xs] => bestL f xs
  | [a, b] => if isLst a || isLst b then none else bestL f [a, b]
  | [a, b, c] => if isLst a || isLst b || isLst c then none else bestL f [a, b, c]
  | _ => none
section
variable {X : Cx} {pa : Option Addr} {B : AP} {H : Hp}
theorem RepB.rep {v : V} {d : D} (h : RepB pa B H v d) (n : isLst d = false) : Rep pa B H v d := by
  rcases h with h | ⟨a, x, _, e2, _⟩
  · exact h
  · cases x with
    | own es => cases e2; cases n
    | od t ks vs => cases e2; cases n
    | _ => cases e2
theorem call_lenD0 : CallR X (.builtin "len") (rP lenF0) := by
  intro pins s σ H xs us Q I r h
  obtain ⟨pa, B, ds, e, hd, hr, g, q⟩ := h
  cases ds with
  | nil => cases g
  | cons d ds =>
    cases ds with
    | nil =>
      obtain ⟨v, rfl, hv⟩ := hr.one
      cases d with
      | tup ys =>
        cases g
        obtain ⟨a, zs, rfl, ha, _, hz⟩ := hv.tup
        exact call_len_seq pins s σ H _ us Q I r ⟨a, zs, rfl, .inr (SqT.of ha), by rw [hz.length]; exact q _ _ (Ext.refl _) (.int _)⟩
      | lst ys =>
        cases g
        obtain ⟨a, zs, rfl, ha, hz⟩ := hv.lst
        exact call_len_seq pins s σ H _ us Q I r ⟨a, zs, rfl, .inl (SqL.of ha), by rw [hz.length]; exact q _ _ (Ext.refl _) (.int _)⟩
      | xt ys =>
        cases g
        obtain ⟨a, o, zs, rfl, ha, _, _, hz⟩ := hv.xt
        exact call_len_seq pins s σ H _ us Q I r ⟨a, zs, rfl, .inr (.inl (.inr ⟨o, ha⟩)), by rw [hz.length]; exact q _ _ (Ext.refl _) (.int _)⟩
      | _ => cases g
    | cons d2 ds => cases d <;> cases g
theorem call_absD : CallR X (.builtin "abs") (rP absF) := by
  intro pins s σ H xs us Q I r h
  obtain ⟨pa, B, ds, e, hd, hr, g, q⟩ := h
  cases ds with
  | nil => cases g
  | cons d ds =>
    cases ds with
    | nil =>
      obtain ⟨v, rfl, hv⟩ := hr.one
      cases d with
      | int i =>
        cases g
        have e1 := hv.int; subst e1
        exact call_abs pins s σ H _ us Q I r ⟨i, rfl, q _ _ (Ext.refl _) (.int _)⟩
      | _ => cases g
    | cons d2 ds => cases d <;> cases g
theorem call_intD : CallR X (.type "int") (rP intF) := by
  intro pins s σ H xs us Q I r h
  obtain ⟨pa, B, ds, e, hd, hr, g, q⟩ := h
  cases ds with
  | nil => cases g
  | cons d ds =>
    cases ds with
    | nil =>
      obtain ⟨v, rfl, hv⟩ := hr.one
      cases d with
      | int i =>
        cases g
        have e1 := hv.int; subst e1
        exact call_int1 pins s σ H _ us Q I r (.inl ⟨i, rfl, q _ _ (Ext.refl _) (.int _)⟩)
      | bl b =>
        cases g
        have e1 := hv.bl; subst e1
        exact call_int1 pins s σ H _ us Q I r (.inr ⟨b, rfl, q _ _ (Ext.refl _) (.int _)⟩)
      | _ => cases g
    | cons d2 ds => cases d <;> cases g
theorem call_tupleD : CallR X (.type "tuple") (rP tupleF) := by
  intro pins s σ H xs us Q I r h
  obtain ⟨pa, B, ds, e, hd, hr, g, q⟩ := h
  cases ds with
  | nil => cases g
  | cons d ds =>
    cases ds with
    | nil =>
      obtain ⟨v, rfl, hv⟩ := hr.one
      cases d with
      | tup ys =>
        cases g
        obtain ⟨a, zs, rfl, ha, na, hz⟩ := hv.tup
        exact call_tuple_of pins s σ H _ us Q I r ⟨a, zs, rfl, .inr ⟨SqT.of ha, q _ _ (Ext.refl _) (.tup ha na hz)⟩⟩
      | lst ys =>
        cases g
        obtain ⟨a, zs, rfl, ha, hz⟩ := hv.lst
        exact call_tuple_of pins s σ H _ us Q I r ⟨a, zs, rfl, .inl ⟨SqL.of ha, fun p hp => q _ _ (Ext.new hp) (Rep.newT hd hp hz)⟩⟩
      | _ => cases g
    | cons d2 ds => cases d <;> cases g
theorem call_tupxD : CallR X (.type "tuple") (rP tupxF) := by
  intro pins s σ H xs us Q I r h
  obtain ⟨pa, B, ds, e, hd, hr, g, q⟩ := h
  cases ds with
  | nil => cases g
  | cons d ds =>
    cases ds with
    | nil =>
      obtain ⟨v, rfl, hv⟩ := hr.one
      cases d with
      | lst ys =>
        cases g
        obtain ⟨a, zs, rfl, ha, hz⟩ := hv.lst
        obtain ⟨u, rfl, rx⟩ := vals1 r
        cases rx
        obtain ⟨its, r', pl, hzz⟩ := I.list (SqL.of ha)
        have hlen := r'.length
        refine call_tuple_list pl.isList (fun h' kp => ?_) (by simp only [List.size_toArray] <;> omega)
        have I1 : Inv X pins σ H { s with heap := h' } := I.kept (t' := s.toks) kp
        have ho : (h'.push { cls := .type "tuple", data := .seq its.toArray }).get? h'.objs.size = some { cls := .type "tuple", data := .seq its.toArray } := Heap.get?_push_size _ rfl
        have I2 : Inv X pins σ (upd H h'.objs.size (.frz { cls := .type "tuple", data := .seq its.toArray } (.tup zs))) { s with heap := h'.push { cls := .type "tuple", data := .seq its.toArray } } :=
          I1.laid (t' := s.toks) (fun b o e => Heap.get?_push_of_some _ e) (Nat.le_refl _) (show ObjOk X.prog X.w _ _ _ (.frz _ (.tup zs)) from ⟨ho, hzz, its, r', IsTup.new _ _⟩)
        have hn := I1.hok.fresh (Nat.le_refl _)
        exact ⟨.ref h'.objs.size, _, I2, rfl, q _ _ (Ext.new hn) (.xt upd_same rfl (hd.fresh hn) (hz.kp (Ext.kp (Ext.new hn))))⟩
      | _ => cases g
    | cons d2 ds => cases d <;> cases g
theorem call_listD : CallR X (.type "list") (rP listF) := by
  intro pins s σ H xs us Q I r h
  obtain ⟨pa, B, ds, e, hd, hr, g, q⟩ := h
  cases ds with
  | nil => cases g
  | cons d ds =>
    cases ds with
    | nil =>
      obtain ⟨v, rfl, hv⟩ := hr.one
      cases d with
      | tup ys =>
        cases g
        obtain ⟨a, zs, rfl, ha, na, hz⟩ := hv.tup
        exact call_list_of pins s σ H _ us Q I r ⟨a, zs, rfl, .inr (SqT.of ha), fun p hp => q _ _ (Ext.new hp) (Rep.newL hd hp hz)⟩
      | lst ys =>
        cases g
        obtain ⟨a, zs, rfl, ha, hz⟩ := hv.lst
        exact call_list_of pins s σ H _ us Q I r ⟨a, zs, rfl, .inl (SqL.of ha), fun p hp => q _ _ (Ext.new hp) (Rep.newL hd hp hz)⟩
      | _ => cases g
    | cons d2 ds => cases d <;> cases g
theorem call_allD (hc : X.calm = true) : CallR X (.builtin "all") (rP allF) := by
  intro pins s σ H xs us Q I r h
  obtain ⟨pa, B, ds, e, hd, hr, g, q⟩ := h
  cases ds with
  | nil => cases g
  | cons d ds =>
    cases ds with
    | nil =>
      obtain ⟨v, rfl, hv⟩ := hr.one
      cases d with
      | lst ys =>
        obtain ⟨bs, eb, rfl⟩ := Option.map_eq_some_iff.mp g
        obtain ⟨a, zs, rfl, ha, hz⟩ := hv.lst
        rw [blsOf_eq eb] at hz
        rw [RepL.bls hz] at ha
        exact cr_all hc pins s σ H _ us Q I r ⟨a, bs, rfl, SqL.of ha, q _ _ (Ext.refl _) (.bl _)⟩
      | _ => cases g
    | cons d2 ds => cases d <;> cases g
theorem call_anyD (hc : X.calm = true) : CallR X (.builtin "any") (rP anyF) := by
  intro pins s σ H xs us Q I r h
  obtain ⟨pa, B, ds, e, hd, hr, g, q⟩ := h
  cases ds with
  | nil => cases g
  | cons d ds =>
    cases ds with
    | nil =>
      obtain ⟨v, rfl, hv⟩ := hr.one
      cases d with
      | lst ys =>
        obtain ⟨bs, eb, rfl⟩ := Option.map_eq_some_iff.mp g
        obtain ⟨a, zs, rfl, ha, hz⟩ := hv.lst
        rw [blsOf_eq eb] at hz
        rw [RepL.bls hz] at ha
        exact cr_any hc pins s σ H _ us Q I r ⟨a, bs, rfl, SqL.of ha, q _ _ (Ext.refl _) (.bl _)⟩
      | _ => cases g
    | cons d2 ds => cases d <;> cases g
theorem call_sumD (hc : X.calm = true) : CallR X (.builtin "sum") (rP sumF) := by
  intro pins s σ H xs us Q I r h
  obtain ⟨pa, B, ds, e, hd, hr, g, q⟩ := h
  cases ds with
  | nil => cases g
  | cons d ds =>
    cases ds with
    | nil =>
      obtain ⟨v, rfl, hv⟩ := hr.one
      cases d with
      | lst ys =>
        obtain ⟨ns, eb, rfl⟩ := Option.map_eq_some_iff.mp g
        obtain ⟨a, zs, rfl, ha, hz⟩ := hv.lst
        rw [intsOf_eq eb] at hz
        rw [RepL.ints hz] at ha
        exact cr_sum hc pins s σ H _ us Q I r ⟨a, ns, rfl, SqL.of ha, q _ _ (Ext.refl _) (.int _)⟩
      | tup ys =>
        obtain ⟨ns, eb, rfl⟩ := Option.map_eq_some_iff.mp g
        obtain ⟨a, zs, rfl, ha, _, hz⟩ := hv.tup
        rw [intsOf_eq eb] at hz
        rw [RepL.ints hz] at ha
        obtain ⟨its, rv, pt, hzz⟩ := I.tuple (SqT.of ha)
        rw [Vals.ref1 r]
        have hi : IntsAre its ns := Vals.ints rv
        have hlen : its.toArray.size = ns.length := by rw [List.size_toArray]; exact hi.length
        refine PySem.call_sum_walkAnyS (PySem.W.iter_tupleW (A := X.A.in1) (I.ok.hd hc) (show s.heap.IsTuple a its.toArray from pt) fun s₂ e W st hfp hw hk => ?_)
        refine ⟨_, _, _, _, _, _, _, fun i => ns.getD i 0, rfl, W, st, hfp, fun i v hP => ?_, fun s' t' m => ?_⟩
        · have hi2 : i < ns.length := by rw [← hlen]; exact (Array.getElem?_eq_some_iff.mp hP).1
          obtain ⟨t, e⟩ := PyProof.Rows.IntsAre.int_at hi i v (by simpa using hP)
          exact ⟨t, e⟩
        · obtain ⟨h', tk, rfl, hk'⟩ := PySem.W.moved_old e rfl m
          refine ⟨.int ns.sum, H, I.kept hk', ⟨t', ?_⟩, q _ _ (Ext.refl _) (.int _)⟩
          rw [hlen, PyProof.Rows.preSum_getD, List.take_length]
      | _ => cases g
    | cons d2 ds => cases d <;> cases g
theorem RepBL.repL : ∀ {vs : List V} {ds : List D}, (∀ d ∈ ds, isLst d = false) → RepBL pa B H vs ds → RepL pa B H vs ds
  | _, _, _, .nil => .nil
  | _, _, n, .cons h t => .cons (h.rep (n _ List.mem_cons_self)) (RepBL.repL (fun d hd => n d (List.mem_cons_of_mem _ hd)) t)
theorem bestL_some {f : D → D → Bool} {d e : D} {ds : List D} (h : bestL f (d :: ds) = some e) : allAlike (d :: ds) = true ∧ ds.foldl (fun a y => if f y a then y else a) d = e := by
  have h : (if allAlike (d :: ds) = true then some (ds.foldl (fun a y => if f y a then y else a) d) else none) = some e := h
  by_cases hk : allAlike (d :: ds) = true
  · rw [if_pos hk] at h
    exact ⟨hk, Option.some.inj h⟩
  · rw [if_neg hk] at h
    cases h
theorem call_bestD (hc : X.calm = true) (hu : X.A.units + 64 < cLine) (mx : Bool) : CallR X (.builtin (if mx then "max" else "min")) (rP (bestF (if mx then gtD else lessD))) := by
  intro pins s σ H xs us Q I r h
  obtain ⟨pa, B, ds, e, hd, hr, g, q⟩ := h
  have one : ∀ (a : Addr) (zs : List V) (ys : List D), (SqL X.K H a zs ∨ SqT X.K H a zs) → RepL pa B H zs ys → bestL (if mx then gtD else lessD) ys = some e → us = [.ref a] → wpAny (model X.prog X.w) X.A (call (.builtin (if mx then "max" else "min")) us) (EP X pins σ Q) X.xe s := by
    intro a zs ys ha hz hb hus
    subst hus
    cases ys with
    | nil => cases hb
    | cons y ys =>
      obtain ⟨hk, rfl⟩ := bestL_some hb
      cases mx with
      | true => exact max_seq hc hu I ha hz hk fun x rx => q x H (Ext.refl _) rx
      | false => exact min_seq hc hu I ha hz hk fun x rx => q x H (Ext.refl _) rx
  cases ds with
  | nil => cases g
  | cons d ds =>
    cases ds with
    | nil =>
      obtain ⟨v, rfl, hv⟩ := hr.one
      cases d with
      | tup ys =>
        obtain ⟨a, zs, rfl, ha, na, hz⟩ := hv.tup
        exact one a zs ys (.inr (SqT.of ha)) hz g (Vals.ref1 r)
      | lst ys =>
        obtain ⟨a, zs, rfl, ha, hz⟩ := hv.lst
        exact one a zs ys (.inl (SqL.of ha)) hz g (Vals.ref1 r)
      | xt ys =>
        obtain ⟨a, o, zs, rfl, ha, _, na, hz⟩ := hv.xt
        exact one a zs ys (.inr (.inl (.inr ⟨o, ha⟩))) hz g (Vals.ref1 r)
      | _ => cases g
    | cons d2 ds =>
      cases ds with
      | nil =>
        have g' : (if isLst d || isLst d2 then none else bestL (if mx then gtD else lessD) [d, d2]) = some e := by
          cases d <;> exact g
        split at g'
        · cases g'
        · rename_i hn
          simp only [Bool.or_eq_true, not_or, Bool.not_eq_true] at hn
          have hr' : RepL pa B H xs [d, d2] := RepBL.repL (fun z hz => by
            rcases List.mem_cons.mp hz with rfl | hz
            · exact hn.1
            · rw [List.mem_singleton.mp hz]
              exact hn.2) hr
          have hl : us.length = 2 := by rw [← r.length, hr'.length] <;> rfl
          obtain ⟨u1, u2, rfl⟩ : ∃ u1 u2, us = [u1, u2] := by
            match us, hl with
            | [u1, u2], _ => exact ⟨u1, u2, rfl⟩
          obtain ⟨hk, rfl⟩ := bestL_some g'
          cases mx with
          | true => exact max_args2 hc hu I r hr' hk fun x rx => q x H (Ext.refl _) rx
          | false => exact min_args2 hc hu I r hr' hk fun x rx => q x H (Ext.refl _) rx
      | cons d3 ds =>
        cases ds with
        | nil =>
          have g' : (if isLst d || isLst d2 || isLst d3 then none else bestL (if mx then gtD else lessD) [d, d2, d3]) = some e := by
            cases d <;> exact g
          split at g'
          · cases g'
          · rename_i hn
            simp only [Bool.or_eq_true, not_or, Bool.not_eq_true] at hn
            have hr' : RepL pa B H xs [d, d2, d3] := RepBL.repL (fun z hz => by
              rcases List.mem_cons.mp hz with rfl | hz
              · exact hn.1.1
              · rcases List.mem_cons.mp hz with rfl | hz
                · exact hn.1.2
                · rw [List.mem_singleton.mp hz]
                  exact hn.2) hr
            have hl : us.length = 3 := by rw [← r.length, hr'.length] <;> rfl
            obtain ⟨u1, u2, u3, rfl⟩ : ∃ u1 u2 u3, us = [u1, u2, u3] := by
              match us, hl with
              | [u1, u2, u3], _ => exact ⟨u1, u2, u3, rfl⟩
            obtain ⟨hk, rfl⟩ := bestL_some g'
            cases mx with
            | true => exact max_args3 hc hu I r hr' hk fun x rx => q x H (Ext.refl _) rx
            | false => exact min_args3 hc hu I r hr' hk fun x rx => q x H (Ext.refl _) rx
        | cons d4 ds => cases d <;> cases g
end
end Ev

set_option Elab.async false
set_option linter.all false
set_option maxRecDepth 100000
set_option maxHeartbeats 4000000
/-! Ev6: sorted, sets, isinstance, index; the table of built-in functions. -/
namespace Ev
open PySem PySem.Spec PyProof.Rows L2

/-! ### sorted -/
def isTupCons : D → Bool
  | .tup (_ :: _) => true
  | _ => false
def isOther : D → Bool
  | .tup _ => false
  | .xt _ => false
  | .non => false
  | _ => true
def sortOk (ds : List D) : Bool := allAlike ds && (ds.all isTupCons || ds.all isOther) && decide (ds.length ≤ LIM)
def sortF0 : List D → Option D
  | [.lst xs] => if sortOk xs then some (.lst (xs.mergeSort (PySem.W.dataLe false D.py))) else none
  | _ => none
def ssetF : List D → Option D
  | [.lst xs] => (intsOf xs).bind fun ns => if ns.length < 64 then some (.lst ((rise ns).map .int)) else none
  | _ => none
section
variable {X : Cx} {pins : List (Addr × Obj)} {σ : L2.St} {H : Hp} {s : Shared} {pa : Option Addr} {B : AP}
theorem each_of {xs : List V} {its : List Value} : ∀ {ds : List D}, Vals xs its → RepL pa B H xs ds → PySem.W.EachIs (fun v d => ∃ x, RelV x v ∧ Rep pa B H x d) its ds := by
  intro ds rv hr
  induction rv generalizing ds with
  | nil =>
    cases hr
    exact .nil
  | cons r t ih =>
    cases hr with
    | cons h1 h2 => exact .cons ⟨_, r, h1⟩ (ih h2)
theorem each_back : ∀ {its : List Value} {ds : List D}, PySem.W.EachIs (fun v d => ∃ x, RelV x v ∧ Rep pa B H x d) its ds → ∃ xs, Vals xs its ∧ RepL pa B H xs ds
  | _, _, .nil => ⟨[], .nil, .nil⟩
  | _, _, .cons ⟨x, r, h⟩ t => by
    obtain ⟨xs, h1, h2⟩ := each_back t
    exact ⟨x :: xs, .cons r h1, .cons h h2⟩
theorem map_py : ∀ ds : List D, ds.map D.py = D.pyL ds
  | [] => rfl
  | d :: ds => by simp [D.pyL, map_py ds]
theorem readsAll_each {h : Heap} : ∀ {its : List Value} {ds : List D} {as : List Addr}, ReadsAll h its (D.pyL ds) as → PySem.W.EachIs (fun v d => ∃ as, Reads h v (D.py d) as) its ds
  | [], [], _, _ => .nil
  | [], d :: ds, _, h => by cases h
  | v :: its, [], _, h => by cases h
  | v :: its, d :: ds, _, h => by
    cases h with
    | cons h1 h2 => exact .cons ⟨_, h1⟩ (readsAll_each h2)
theorem call_sortedD0 (hu : X.A.units + 64 < cLine) : CallR X (.builtin "sorted") (rP sortF0) := by
  intro pins s σ H xs us Q I r h
  obtain ⟨pa, B, ds, e, hd, hr, g, q⟩ := h
  cases ds with
  | nil => cases g
  | cons d ds =>
    cases ds with
    | nil =>
      obtain ⟨v, rfl, hv⟩ := hr.one
      cases d with
      | lst ys =>
        by_cases hs : sortOk ys = true
        · have g' : (if sortOk ys then some (D.lst (ys.mergeSort (PySem.W.dataLe false D.py))) else none) = some e := g
          rw [if_pos hs] at g'
          cases g'
          unfold sortOk at hs
          simp only [Bool.and_eq_true, Bool.or_eq_true, decide_eq_true_eq] at hs
          obtain ⟨⟨hal, hso⟩, hlen⟩ := hs
          obtain ⟨al, pl⟩ := alikeAll_of hal
          obtain ⟨a, zs, rfl, ha, hz⟩ := hv.lst
          obtain ⟨its, rv, pt, hzz⟩ := I.list (SqL.of ha)
          obtain ⟨as, rs⟩ := RepL.reads I pl hz rv
          rw [Vals.ref1 r]
          refine PySem.W.sorted_data (enc := D.py) (vs := its) (bs := ys) pt.isList (each_of rv hz) (readsAll_each rs) ?_ ?_ (by rw [lim_eq]; exact hlen) (fun b hb => ?_) fun out hl eo => ?_
          · rw [map_py]
            exact fun x hx y hy => al.1 x hx y hy
          · rcases hso with hso | hso
            · left
              intro d hd
              obtain ⟨b, hb, rfl⟩ := List.mem_map.mp hd
              have := List.all_eq_true.mp hso b hb
              cases b with
              | tup zs =>
                cases zs with
                | nil => cases this
                | cons z zs => exact ⟨_, _, rfl⟩
              | _ => cases this
            · right
              intro d hd
              obtain ⟨b, hb, rfl⟩ := List.mem_map.mp hd
              have h1 := List.all_eq_true.mp hso b hb
              have h2 := plL_mem pl b hb
              cases b with
              | bl _ => exact ⟨(fun z => nomatch z), fun _ z => nomatch z⟩
              | int _ => exact ⟨(fun z => nomatch z), fun _ z => nomatch z⟩
              | str _ => exact ⟨(fun z => nomatch z), fun _ z => nomatch z⟩
              | lst _ => exact ⟨by simp [D.py], fun _ z => by simp [D.py] at z⟩
              | non => cases h1
              | tup _ => cases h1
              | xt _ => cases h1
              | _ => exact absurd h2 (by simp [D.pl, PL])
          · have h1 := (D.can b PL (plL_mem pl b hb)).2
            have h3 : PL = 20 := rfl
            omega
          · obtain ⟨ws, hw1, hw2⟩ := each_back eo
            have hn : H (s.heap.objs.size + 1) = none := I.hok.fresh (Nat.le_succ _)
            have old : ∀ b u, s.heap.get? b = some u → (sortedAll s.heap its (List.toArray out)).get? b = some u := fun b u e => sortedAll_old e
            obtain ⟨c, hc⟩ := sortedAll_at s.heap its (List.toArray out)
            refine ⟨.ref (s.heap.objs.size + 1), upd H (s.heap.objs.size + 1) (.lst ws), I.laid (t' := s.toks) old (Nat.le_succ _) ⟨?_, out, c, hw1, hc⟩, rfl, q _ _ (Ext.new hn) (Rep.newL hd hn hw2)⟩
            rw [hw1.length, hl, lim_eq]
            exact hlen
        · have g' : (if sortOk ys then some (D.lst (ys.mergeSort (PySem.W.dataLe false D.py))) else none) = some e := g
          rw [if_neg hs] at g'
          cases g'
      | _ => cases g
    | cons d2 ds => cases d <;> cases g

/-! ### set(list of ints), sorted -/
def rSetLI (K : Frag) (w : World) : List V → Hp → VK → Prop := fun xs H Q => ∃ (l : Addr) (ns : List Int), xs = [V.ref l] ∧ SqL K H l (ns.map V.int) ∧ ns.length < 64 ∧
  ∀ a c, H a = none → c ≤ ns.length → Q (.ref a) (upd H a (SetO w a (fun j => decide (j ∈ ns)) c))
theorem call_setLI (hc : X.calm = true) : CallR X (.type "set") (rSetLI X.K X.w) := by
  intro pins s σ H xs us Q I r h
  obtain ⟨l, ns, rfl, hl, hn, q⟩ := h
  obtain ⟨its, rv, pt, hz⟩ := I.list hl
  rw [Vals.ref1 r]
  have hi : IntsAre its ns := Vals.ints rv
  refine EvSet.call_set_listI ns (I.ok.hd hc) pt.isList (by simpa using hi) (Nat.lt_trans (Nat.succ_lt_succ hn) (by decide)) fun h' tk c R hc' k => ?_
  have hf : H s.heap.objs.size = none := I.hok.fresh (Nat.le_refl _)
  exact ⟨.ref _, _, I.laid (t' := tk) k (Nat.le_refl _) (setO_new R), rfl, q _ c hf hc'⟩
theorem sset_read {xs : List V} {Q : VK} (h : rP ssetF xs H Q) : rSetLI X.K X.w xs H fun y H2 => rSortedSet X.w [y] H2 Q := by
  obtain ⟨pa, B, ds, e, hd, hr, g, q⟩ := h
  cases ds with
  | nil => cases g
  | cons d ds =>
    cases ds with
    | nil =>
      obtain ⟨v, rfl, hv⟩ := hr.one
      cases d with
      | lst ys =>
        obtain ⟨ns, eb, g2⟩ := Option.bind_eq_some_iff.mp g
        by_cases hn : ns.length < 64
        · rw [if_pos hn] at g2
          cases g2
          obtain ⟨a, zs, rfl, ha, hz⟩ := hv.lst
          rw [intsOf_eq eb] at hz
          rw [RepL.ints hz] at ha
          refine ⟨a, ns, rfl, SqL.of ha, hn, fun b c hb hc => ⟨b, _, c, rfl, upd_same, by omega, fun ms p up mem len hp => ?_⟩⟩
          have e : ms = rise ns := up_unique up (rise_up ns) fun k => by
            rw [mem k, rise_mem]
            exact decide_eq_true_iff
          subst e
          have x1 : Ext H (upd H b (SetO X.w b (fun j => decide (j ∈ ns)) c)) := Ext.new hb
          have d1 : Dom B (upd H b (SetO X.w b (fun j => decide (j ∈ ns)) c)) := fun z hz => by
            cases e1 : H z with
            | none => exact absurd e1 (hd z hz)
            | some o =>
              rw [x1 z o e1]
              simp
          exact q _ _ (fun z o e1 => Ext.new hp z o (x1 z o e1)) (Rep.newL d1 hp (RepL.of_ints _))
        · rw [if_neg hn] at g2
          cases g2
      | _ => cases g
    | cons d2 ds => cases d <;> cases g
theorem pe_sset (hc : X.calm = true) {e : Expr} {te : TE} {p p2 q pos : Pos} (hg : Gl X "sorted") (hm : X.mg "sorted" = none) (hg2 : Gl X "set") (hm2 : X.mg "set" = none) (he : PE X e te)
    (mono : ∀ σ H (Q Q' : VK), (∀ x H1, Q x H1 → Q' x H1) → te σ H Q → te σ H Q')
    (ha : starEach [e] X.env = [(false, eval e X.env)]) :
    PE X (.Call (.Name "sorted" p) [.Call (.Name "set" p2) [e] [] q] [] pos) (fun σ H Q => te σ H fun x H1 => rP ssetF [x] H1 Q) := by
  refine ⟨fun pins s σ H Q I h => ?_⟩
  have h2 := pe_callB (pos := pos) (p := p) (cr_sortedSet (X := X) hc) hg hm (by decide +kernel) (pa_cons (pe_callTy (pos := q) (p := p2) (call_setLI hc) hg2 hm2 (by decide +kernel) (pa_cons he pa_nil ha) (he := ha) (hpl := by rfl)) pa_nil)
  refine h2.run pins s σ H Q I ?_
  exact mono σ H _ _ (fun x H1 h3 => sset_read h3) h
end

/-! ### isinstance -/
inductive Ty where
  | int | bool | str | tup | lst
  deriving DecidableEq
def Ty.nm : Ty → String
  | .int => "int" | .bool => "bool" | .str => "str" | .tup => "tuple" | .lst => "list"
def isiD : Ty → D → Option Bool
  | .int, .bl _ => some true
  | .int, .int _ => some true
  | .bool, .bl _ => some true
  | .str, .str _ => some true
  | .tup, .tup _ => some true
  | .tup, .xt _ => some true
  | .lst, .lst _ => some true
  | _, .non => some false
  | _, .bl _ => some false
  | _, .int _ => some false
  | _, .str _ => some false
  | _, .tup _ => some false
  | _, .lst _ => some false
  | _, .xt _ => some false
  | _, _ => none
section
variable {X : Cx} {pa : Option Addr} {B : AP} {H : Hp}
theorem isi_read {K : Frag} {T : Ty} {x : V} {d : D} {b : Bool} {Q : VK} (h : RepB pa B H x d) (e : isiD T d = some b) (q : Q (.bl b) H) : rIsi K [x, .ty T.nm] H Q := by
  cases d with
  | non =>
    have e1 := h.non; subst e1
    cases T <;> cases e <;> exact ⟨_, _, _, _, _, rfl, .ty _, .base .non, kit_ty (by decide +kernel), q⟩
  | bl i =>
    have e1 := h.bl; subst e1
    cases T <;> cases e <;> exact ⟨_, _, _, _, _, rfl, .ty _, .base (.bl _), kit_ty (by decide +kernel), q⟩
  | int i =>
    have e1 := h.int; subst e1
    cases T <;> cases e <;> exact ⟨_, _, _, _, _, rfl, .ty _, .base (.int _), kit_ty (by decide +kernel), q⟩
  | str i =>
    have e1 := h.str; subst e1
    cases T <;> cases e <;> exact ⟨_, _, _, _, _, rfl, .ty _, .base (.str _), kit_ty (by decide +kernel), q⟩
  | tup ys =>
    obtain ⟨a, zs, rfl, ha, _, _⟩ := h.tup
    cases T <;> cases e <;> exact ⟨_, _, _, _, _, rfl, .ty _, .base (.tup ha), kit_ty (by decide +kernel), q⟩
  | lst ys =>
    obtain ⟨a, zs, rfl, ha, _⟩ := h.lst
    cases T <;> cases e <;> exact ⟨_, _, _, _, _, rfl, .ty _, .base (.lst ha), kit_ty (by decide +kernel), q⟩
  | xt ys =>
    obtain ⟨a, o, zs, rfl, ha, _, _⟩ := h.xt
    cases T <;> cases e <;> exact ⟨_, _, _, _, _, rfl, .ty _, .fTuple ha, kit_ty (by decide +kernel), q⟩
  | _ => cases T <;> cases e

/-! ### index -/
def idxOfF (d : D) : List D → Option D
  | [.int k] => match d with
    | .xt xs => (intsOf xs).bind fun ns => if k ∈ ns then some (.int (ns.idxOf k : Nat)) else none
    | .lst xs => (intsOf xs).bind fun ns => if k ∈ ns then some (.int (ns.idxOf k : Nat)) else none
    | _ => none
  | _ => none
def rM (g : D → List D → Option D) : V → List V → Hp → VK → Prop := fun x xs H Q => ∃ pa B d ds r, Dom B H ∧ RepB pa B H x d ∧ RepBL pa B H xs ds ∧ g d ds = some r ∧ ∀ v H', Ext H H' → Rep pa B H' v r → Q v H'
theorem mt_tupleIndex : MtR X "tuple.index" (fun x xs H Q => (∃ a o ys, x = .ref a ∧ H a = some (.frz o (.tup ys))) ∧ rM idxOfF x xs H Q) := by
  intro pins s σ H x xs v us Q I rx rxs h
  obtain ⟨⟨a, o, ys, rfl, ha⟩, pa, B, d, ds, r, hd, h1, h2, g, q⟩ := h
  cases rx
  unfold idxOfF at g
  split at g
  · rename_i k
    obtain ⟨w, rfl, hw⟩ := h2.one
    have e1 := hw.int; subst e1
    obtain ⟨u, rfl, t, rfl⟩ := vals1 rxs
    cases d with
    | xt zs =>
      obtain ⟨ns, eb, g2⟩ := Option.bind_eq_some_iff.mp g
      by_cases hk : k ∈ ns
      · rw [if_pos hk] at g2
        cases g2
        obtain ⟨a', o', ys', e2, ha', _, _, hz⟩ := h1.xt
        cases e2
        rw [ha] at ha'
        cases ha'
        rw [intsOf_eq eb] at hz
        rw [RepL.ints hz] at ha
        obtain ⟨its, rv, pt, hzz⟩ := I.tuple (.inl (.inr ⟨o, ha⟩))
        exact PySem.SeqAt.tuple_index_ints (show s.heap.IsTuple a its.toArray from pt) (Vals.ints rv) hk ⟨.int (ns.idxOf k : Nat), H, I.tok _, ⟨_, rfl⟩, q _ _ (Ext.refl _) (.int _)⟩
      · rw [if_neg hk] at g2
        cases g2
    | lst zs =>
      obtain ⟨a', ys', e2, ha', hz⟩ := h1.lst
      cases e2
      rw [ha] at ha'
      cases ha'
    | _ => cases g
  · cases g
theorem mt_listIndex : MtR X "list.index" (fun x xs H Q => (∃ a ys, x = .ref a ∧ H a = some (.lst ys)) ∧ rM idxOfF x xs H Q) := by
  intro pins s σ H x xs v us Q I rx rxs h
  obtain ⟨⟨a, ys, rfl, ha⟩, pa, B, d, ds, r, hd, h1, h2, g, q⟩ := h
  cases rx
  unfold idxOfF at g
  split at g
  · rename_i k
    obtain ⟨w, rfl, hw⟩ := h2.one
    have e1 := hw.int; subst e1
    obtain ⟨u, rfl, t, rfl⟩ := vals1 rxs
    cases d with
    | lst zs =>
      obtain ⟨ns, eb, g2⟩ := Option.bind_eq_some_iff.mp g
      by_cases hk : k ∈ ns
      · rw [if_pos hk] at g2
        cases g2
        obtain ⟨a', ys', e2, ha', hz⟩ := h1.lst
        cases e2
        rw [ha] at ha'
        cases ha'
        rw [intsOf_eq eb] at hz
        rw [RepL.ints hz] at ha
        obtain ⟨its, rv, pt, hzz⟩ := I.list (SqL.of ha)
        exact PySem.SeqAt.list_index_ints pt.isList (Vals.ints rv) (by rw [List.length_map] at hzz; exact hzz) hk ⟨.int (ns.idxOf k : Nat), H, I.tok _, ⟨_, rfl⟩, q _ _ (Ext.refl _) (.int _)⟩
      · rw [if_neg hk] at g2
        cases g2
    | xt zs =>
      obtain ⟨a', o', ys', e2, ha', _⟩ := h1.xt
      cases e2
      rw [ha] at ha'
      cases ha'
    | _ => cases g
  · cases g
end

end Ev

set_option Elab.async false
set_option linter.all false
set_option maxRecDepth 100000
set_option maxHeartbeats 4000000
/-! EvEnum: enumerate over a tuple. -/
namespace Ev
open PySem PySem.Spec PyProof.Rows L2

theorem meets_enumerate_newT (l : Addr) (o : Obj) (items : Array Value) (n : Nat) (hc : o.cls = .type "tuple") (hd : o.data = .seq items n) :
    Meets (Builtin.«enumerate.__new__» ⟨[.type "enumerate", .ref l], []⟩) (fun _ R s => s.heap.get? l = some o ∧
      R (.ok (.ret (.ref (s.heap.push { cls := .type "tuple_iterator", data := .fields #[.ref l, .int 0 0] }).objs.size)))
        { s with heap := (s.heap.push { cls := .type "tuple_iterator", data := .fields #[.ref l, .int 0 0] }).push { cls := .type "enumerate", data := .fields #[.none, .bool false, .ref s.heap.objs.size, rawInt 0, .none, .none] } }) :=
  .of_wp fun prog w A R s h => by
    obtain ⟨hp, g, d, tk, os⟩ := s; obtain ⟨hl, h⟩ := h
    have hsub := sub_enumerate
    have hL : Heap.IsTuple (Shared.heap ⟨hp, g, d, tk, os⟩) l items := ⟨_, hl, hc, n, hd⟩
    have q1 : ∀ {A' : Around} {E : Value → Shared → Prop} {Q : Value → Shared → Prop}, Q (.ref hp.objs.size) ⟨hp.push { cls := .type "tuple_iterator", data := .fields #[.ref l, .int 0 0] }, g, d, tk, os⟩ → wpAny (model prog w) A' (pyIter (.ref l)) Q E ⟨hp, g, d, tk, os⟩ :=
      fun q => wpAny_pyIter_tuple hL q
    wp_walk using q1
    refine wpAny_stack_any fun st => wpAny_pure ?_
    split
    · rename_i c _ _ _ _ _
      cases (c == Value.type "enumerate")
      · wp_walk using q1
        exact ⟨_, rfl, h⟩
      · wp_walk using q1
        exact ⟨_, rfl, h⟩
    · wp_walk using q1
      exact ⟨_, rfl, h⟩

section
variable {prog : Program} {w : World} {A : Around} {E : Value → Shared → Prop} {s : Shared}
theorem call_enumerate_tuple {l : Addr} {items : Array Value} {Q : Value → Shared → Prop} (hL : s.heap.IsTuple l items)
    (h : ∀ h', IsEnum h' (s.heap.objs.size + 1) s.heap.objs.size 0 .none → h'.IsTupleIter s.heap.objs.size l 0 → h'.objs.size = s.heap.objs.size + 2 →
      (∀ b o, s.heap.get? b = some o → h'.get? b = some o) → Q (.ref (s.heap.objs.size + 1)) { s with heap := h' }) :
    wpAny (model prog w) A (call (.type "enumerate") [.ref l]) Q E s := by
  obtain ⟨o, hl, hc, n, hd⟩ := hL
  refine callType_new F.called_enumerate (by decide) (F.typeCall_enumerate_1 _) (F.newCall_enumerate_1 _) (fun obj => F.args_object_init_2 obj _) F.entry_enumerate_new
    (meets_enumerate_newT l o items n hc hd) ⟨hl, ?_⟩
  have hz : (s.heap.push { cls := .type "tuple_iterator", data := .fields #[.ref l, .int 0 0] }).objs.size = s.heap.objs.size + 1 := Heap.size_push ..
  show _ ∧ _
  rw [hz]
  have he : IsEnum ((s.heap.push { cls := .type "tuple_iterator", data := .fields #[.ref l, .int 0 0] }).push
      { cls := .type "enumerate", data := .fields #[.none, .bool false, .ref s.heap.objs.size, rawInt 0, .none, .none] }) (s.heap.objs.size + 1) s.heap.objs.size 0 .none := by
    have := Heap.get?_push_size (s.heap.push { cls := .type "tuple_iterator", data := .fields #[.ref l, .int 0 0] })
      (o := { cls := .type "enumerate", data := .fields #[.none, .bool false, .ref s.heap.objs.size, rawInt 0, .none, .none] }) rfl
    rw [hz] at this; exact this
  refine ⟨⟨_, he, rfl⟩, h _ he ⟨_, Heap.get?_push_of_some _ (Heap.get?_push_size _ rfl), rfl, rfl⟩ (by rw [Heap.size_push, hz]) fun b o x => Heap.get?_push_of_some _ (Heap.get?_push_of_some _ x)⟩
end

/-- the tuple at a, each item in a new pair -/
def IteT (K : PySem.W.Frag) (a : Addr) : It :=
  ⟨fun i H => ∃ (xs : List V) (x : V), SqT K H a xs ∧ xs[i]? = some x, fun i H v H' => ∃ T x, v = .ref T ∧ H T = none ∧ H' = upd H T (.tup [.int (i : Nat), x]) ∧ ∀ xs, SqT K H a xs → xs[i]? = some x, fun i H => ∃ xs : List V, SqT K H a xs ∧ xs.length ≤ i⟩
theorem turn_enumT {P : Program} {w : World} {K : PySem.W.Frag} {elts : List Expr} {kk : Nat} {tpos : Pos} (a e it : Addr) (hne : e ≠ it) (hai : a ≠ it) :
    Turn P w K (.Tuple elts kk tpos) (IteT K a) [e, it] e (fun i h => (∃ old, IsEnum h e it ((i : Nat) : Int) old) ∧ h.IsTupleIter it a i) where
  mem := by simp
  obj := fun i h st b hb => by
    obtain ⟨⟨old, he⟩, ⟨o, ho, hc, hd⟩⟩ := st
    have e' : b = e ∨ b = it := by simpa using hb
    rcases e' with z | z
    · rw [z]; exact ⟨_, he, fun v q => nomatch q⟩
    · rw [z]; exact ⟨o, ho, fun v q => by rw [hd] at q; cases q⟩
  keep := fun i h h' st k => let ⟨⟨old, he⟩, hi⟩ := st; ⟨⟨old, k e (by simp) _ he⟩, hi.at fun o q => k it (by simp) o q⟩
  item := by
    intro X hP hw hK hc i pins s σ H E I hf st hg
    subst hP hw hK
    obtain ⟨⟨old, he⟩, hit⟩ := st
    obtain ⟨xs, x, hq, hx⟩ := hg
    obtain ⟨its, rv, p, hz⟩ := I.tuple hq
    obtain ⟨u, hu, ru⟩ := rv.get hx
    have hel : e < s.heap.objs.size := Heap.lt_size he
    have hil : it < s.heap.objs.size := by obtain ⟨_, q, _⟩ := hit; exact Heap.lt_size q
    have hae : e ∉ [it, a] := by
      intro z
      have z' : e = it ∨ e = a := by simpa using z
      rcases z' with z | z
      · exact hne z
      · obtain ⟨o, e1, e2, _⟩ := id p
        rw [← z, he] at e1
        cases e1
        exact absurd e2 (by simp)
    have hlt : i < its.toArray.size := by
      have := (List.getElem?_eq_some_iff.mp hu).1
      simpa using this
    refine wpAny_pyNext_enum_itemD (Draws.tuple (A := X.A.in1) (I.ok.hd hc) it a hai its.toArray) he ⟨hit, p⟩ hlt hne hae fun y h' tk hP ho hst' hT hsz hk => ?_
    have ey : y = u := by
      have q : its.toArray[i]? = some u := by simpa using hu
      rw [q] at hP
      exact (Option.some.inj hP).symm
    subst ey
    refine ⟨_, rfl, wpAny_letOwnedTupleGo_enum (s := { s with heap := h', toks := tk + 1 }) ho fun h'' he' sb => ?_⟩
    have hT2 : h''.get? s.heap.objs.size = some { cls := .type "tuple", data := .seq #[.int i tk, y] } := (sb.2 _ (Nat.ne_of_gt hel)).trans hT
    have new : ObjOk X.prog X.w (upd H s.heap.objs.size (.tup [.int (i : Nat), x])) h'' s.heap.objs.size (.tup [.int (i : Nat), x]) :=
      ⟨by show 2 ≤ sizeLine; decide, [.int i tk, y], .cons ⟨_, rfl⟩ (.cons ru .nil), ⟨_, hT2, rfl, _, rfl⟩⟩
    have I1 : Inv X pins σ (upd H s.heap.objs.size (.tup [.int (i : Nat), x])) { s with heap := h'', toks := tk + 1 } :=
      I.turnedNew (ch := [e, it]) (fun b ob hb q => (sb.2 b (fun z => hb (by simp [z]))).trans (hk b ob (fun z => hb (by simp [z])) (fun z => hb (by simp [z])) q)) hf (Nat.le_refl _) new
    refine ⟨.ref s.heap.objs.size, _, I1, rfl, ⟨_, x, rfl, I.hok.fresh (Nat.le_refl _), rfl, fun ys hy => by rw [I.tuple_inj hy hq]; exact hx⟩, ⟨⟨y, ?_⟩, hst'.1.at fun o q => (sb.2 it (Ne.symm hne)).trans q⟩, fun b hb => ?_⟩
    · have e1 : ((i + 1 : Nat) : Int) = (i : Int) + 1 := by omega
      rw [e1]; exact he'
    · have hb' : b < s.heap.objs.size := by
        have e' : b = e ∨ b = it := by simpa using hb
        rcases e' with z | z
        · rw [z]; exact hel
        · rw [z]; exact hil
      rw [upd_ne (Nat.ne_of_lt hb')]
      exact (hf b hb).1
  done := by
    intro X hP hw hK hc i pins s σ H E I hf st hg
    subst hP hw hK
    obtain ⟨⟨old, he⟩, hit⟩ := st
    obtain ⟨xs, hq, hx⟩ := hg
    obtain ⟨its, rv, p, hz⟩ := I.tuple hq
    obtain ⟨f0, f1, f2, f3, f4, f5⟩ := hf it (by simp)
    have hl := rv.length
    have D : Draws X.prog X.w X.A.in1 it [it, a] i (fun _ _ => False) (fun j h => j = i ∧ h.IsTupleIter it a i ∧ h.IsTuple a its.toArray) := {
      live := fun _ _ st => let ⟨o, ho, _⟩ := st.2.1; ⟨o, ho⟩
      frame := fun _ _ _ st hk => ⟨st.1, st.2.1.at fun o e => hk it (by simp) o e, st.2.2.at fun o e => hk a (by simp) o e⟩
      item := fun j s Q E hj st hQ => absurd hj (by rw [st.1]; exact Nat.lt_irrefl _)
      done := fun s Q E st hE => wpAny_nextOf_tuple_end (I.ok.hd hc) st.2.1 st.2.2 (by simp; omega) hE }
    exact wpAny_pyNext_enum_endD D he ⟨rfl, hit, p⟩ fun h' eb => ⟨rfl, I.turned (t' := s.toks) (fun b o hb q => eb b o hb q) f0 f1 f3 f4 f5⟩
  self := fun A i s Q E st h => let ⟨⟨_, he⟩, _⟩ := st; wpAny_pyIter_enum he h

/-- a list or a tuple -/
def iEnumA (K : PySem.W.Frag) (ta : TA) : TI := fun σ H R => ta σ H fun vs H1 => ∃ a xs, vs = [V.ref a] ∧ ((SqL K H1 a xs ∧ R (Ite K a) H1) ∨ (SqT K H1 a xs ∧ R (IteT K a) H1))
theorem pi_enumA {X : Cx} {e : Expr} {ta : TA} {p pos tpos : Pos} {elts : List Expr} {kk : Nat} (hg : Gl X "enumerate") (hm : X.mg "enumerate" = none) (ha : PA X [e] ta) (hs : starEach [e] X.env = [(false, eval e X.env)]) :
    PI X (.Tuple elts kk tpos) (.Call (.Name "enumerate" p) [e] [] pos) (iEnumA X.K ta) := by
  refine ⟨fun pins s σ H R I h => ?_⟩
  refine Call_ (ld_blt I hg hm boot_enumerate (PyProof.Rows.callWith_type1 (thn (ha.run pos pins s σ H _ I h) fun us s1 ⟨vs, H1, I1, r1, q1⟩ => ?_) hs rfl))
  obtain ⟨a, xs, ex, q1⟩ := q1
  subst ex
  cases r1 with
  | cons r rr =>
    cases rr
    cases r
    rcases q1 with ⟨hq, q⟩ | ⟨hq, q⟩
    · obtain ⟨its, rv, p', hz⟩ := I1.list hq
      refine call_enumerate_list p'.isList fun h' he hit hsz hk => wpAny_pyIter_enum he ?_
      have I2 : Inv X pins σ H1 { s1 with heap := h' } := I1.kept (t' := s1.toks) hk
      refine ⟨s1.heap.objs.size + 1, [s1.heap.objs.size + 1, s1.heap.objs.size], _, _, H1, rfl, I2, turn_enum a (s1.heap.objs.size + 1) s1.heap.objs.size, ⟨⟨.none, he⟩, hit, Nat.succ_ne_self _⟩, fun b hb => ?_, q⟩
      have e' : b = s1.heap.objs.size + 1 ∨ b = s1.heap.objs.size := by simpa using hb
      have hle : s1.heap.objs.size ≤ b := by
        rcases e' with z | z
        · rw [z]; exact Nat.le_add_right _ _
        · rw [z]; exact Nat.le_refl _
      exact I1.fpOk hle (I1.hok.fresh hle)
    · obtain ⟨its, rv, p', hz⟩ := I1.tuple hq
      have hal : a < s1.heap.objs.size := by
        obtain ⟨o, e1, _⟩ := id p'
        exact Heap.lt_size e1
      refine call_enumerate_tuple p' fun h' he hit hsz hk => wpAny_pyIter_enum he ?_
      have I2 : Inv X pins σ H1 { s1 with heap := h' } := I1.kept (t' := s1.toks) hk
      refine ⟨s1.heap.objs.size + 1, [s1.heap.objs.size + 1, s1.heap.objs.size], _, _, H1, rfl, I2, turn_enumT a (s1.heap.objs.size + 1) s1.heap.objs.size (Nat.succ_ne_self _) (Nat.ne_of_lt hal), ⟨⟨.none, he⟩, hit⟩, fun b hb => ?_, q⟩
      have e' : b = s1.heap.objs.size + 1 ∨ b = s1.heap.objs.size := by simpa using hb
      have hle : s1.heap.objs.size ≤ b := by
        rcases e' with z | z
        · rw [z]; exact Nat.le_add_right _ _
        · rw [z]; exact Nat.le_refl _
      exact I1.fpOk hle (I1.hok.fresh hle)

/-- *v among written items -/
def tConsS (K : PySem.W.Frag) (ta : TE) (tr : TA) : TA := fun σ H Q => ta σ H fun x H1 => ∃ a xs, x = V.ref a ∧ (SqL K H1 a xs ∨ SqT K H1 a xs) ∧ tr σ H1 fun ys H2 => Q (xs ++ ys) H2
theorem pa_star {X : Cx} {e : Expr} {es : List Expr} {te : TE} {t : TA} {p : Pos} (ha : PE X e te) (hr : PA X es t) (hs : starEach (.Starred e p :: es) X.env = (true, eval e X.env) :: starEach es X.env) : PA X (.Starred e p :: es) (tConsS X.K te t) := by
  refine ⟨fun pos pins s σ H Q I h => ?_⟩
  refine PySem.W.items_star (thn (ha.run pins s σ H _ I h) fun u s1 ⟨x, H1, I1, r1, a, xs, ex, hx, q1⟩ => ?_) hs
  subst ex
  cases (show u = Value.ref a from r1)
  have key : ∃ T o items n, (T = "list" ∨ T = "tuple") ∧ s1.heap.get? a = some o ∧ o.cls = .type T ∧ o.data = .seq items n ∧ items.size ≤ sizeLine ∧ Vals xs items.toList := by
    rcases hx with hx | hx
    · obtain ⟨its, rv, ⟨o, n, e1, e2, _, e4⟩, hz⟩ := I1.list hx
      have hl := rv.length
      exact ⟨"list", o, its.toArray, n, .inl rfl, e1, e2, e4, by simp; omega, by simpa using rv⟩
    · obtain ⟨its, rv, ⟨o, e1, e2, n, e4⟩, hz⟩ := I1.tuple hx
      have hl := rv.length
      exact ⟨"tuple", o, its.toArray, n, .inr rfl, e1, e2, e4, by simp; omega, by simpa using rv⟩
  obtain ⟨T, o, items, n, hT, e1, e2, e4, hz, rv⟩ := key
  have hT' : s1.TypeIs (.ref a) T := ⟨o, e1, e2⟩
  have z : wpAny (model X.prog X.w) X.A (collect (.ref a)) (fun here s₂ => wpAny (model X.prog X.w) X.A (spliced (backTo pos (starEach es X.env))) (fun vs s₃ => L2.AP X pins σ Q (here ++ vs) s₃) X.xe s₂) X.xe s1 := by
    refine wpAny_collect_seq a hT e1 e2 e4 (fun h' hk => ?_) hz
    have I2 : Inv X pins σ H1 { s1 with heap := h' } := I1.kept (t' := s1.toks) hk
    exact thn (hr.run pos pins _ σ H1 _ I2 q1) fun us s2 ⟨ys, H2, I3, r2, q2⟩ => ⟨xs ++ ys, H2, I3, rv.append r2, q2⟩
  unfold PySem.W.StarOf notIterableAtAll
  rcases hT with rfl | rfl
  · exact wpAny_bind (wpAny_specialOf hT' PySem.F.slot_list_iter.lookup (wpAny_pure ⟨rfl, z⟩))
  · exact wpAny_bind (wpAny_specialOf hT' PySem.F.slot_tuple_iter.lookup (wpAny_pure ⟨rfl, z⟩))
end Ev

set_option Elab.async false
set_option linter.all false
set_option maxRecDepth 100000
set_option maxHeartbeats 4000000
/-! EvMul: a tuple times 0, 1. -/
namespace Ev
open PySem PySem.Spec PyProof.Rows L2
theorem tuple_mul0 (l : Addr) (items : Array Value) (n : Nat) (dd : Option Addr) (sl : Array (Option Value)) (x : Int) (u : Tok) (c0 : (decide (x < -(2 ^ 63)) || decide (x ≥ 2 ^ 63)) = false) (c1 : (items.isEmpty || x == 1) = false) (c2 : (decide (x ≤ 0) || items.isEmpty) = true) :
    Meets (Builtin.«tuple.__mul__» ⟨[.ref l, .int x u], []⟩) (fun _ R s => s.heap.get? l = some { cls := .type "tuple", dict := dd, data := .seq items n, slots := sl } ∧
      R (.ok (.ret (Value.ref s.heap.objs.size))) { s with heap := s.heap.push { cls := Value.type "tuple", data := Data.seq #[] }, toks := s.toks }) :=
  .of_wp fun prog w A R s h => by
    obtain ⟨hp, g, d, tk, os⟩ := s
    obtain ⟨hl, h⟩ := h
    have f1 := AutoSeq1.idx_int
    wp_walk using wpAny_loadPart' hl
    repeat (first
      | (refine wpAny_ite_false (decide_eq_false (by rw [c0]; exact Bool.false_ne_true)) ?_; wp_walk using wpAny_loadPart' hl)
      | (refine wpAny_ite_false (decide_eq_false (by rw [c1]; exact Bool.false_ne_true)) ?_; wp_walk using wpAny_loadPart' hl)
      | (refine wpAny_ite_true (decide_eq_true (by rw [c2])) ?_; wp_walk using wpAny_loadPart' hl))
    exact ⟨_, rfl, h⟩
theorem tuple_mul1 (l : Addr) (items : Array Value) (n : Nat) (dd : Option Addr) (sl : Array (Option Value)) (x : Int) (u : Tok) (c0 : (decide (x < -(2 ^ 63)) || decide (x ≥ 2 ^ 63)) = false) (c1 : (items.isEmpty || x == 1) = true) :
    Meets (Builtin.«tuple.__mul__» ⟨[.ref l, .int x u], []⟩) (fun _ R s => s.heap.get? l = some { cls := .type "tuple", dict := dd, data := .seq items n, slots := sl } ∧ R (.ok (.ret (Value.ref l))) s) :=
  .of_wp fun prog w A R s h => by
    obtain ⟨hp, g, d, tk, os⟩ := s
    obtain ⟨hl, h⟩ := h
    have f1 := AutoSeq1.idx_int
    wp_walk using wpAny_loadPart' hl
    repeat (first
      | (refine wpAny_ite_false (decide_eq_false (by rw [c0]; exact Bool.false_ne_true)) ?_; wp_walk using wpAny_loadPart' hl)
      | (refine wpAny_ite_true (decide_eq_true (by rw [c1])) ?_; wp_walk using wpAny_loadPart' hl))
    exact ⟨_, rfl, h⟩
end Ev

set_option Elab.async false
set_option linter.all false
set_option maxRecDepth 100000
set_option maxHeartbeats 4000000
/-! EvG: defs that are called where no text of an object is under way (guards). -/
namespace Ev
open PySem PySem.Spec PyProof.Rows L2
/-- as FnOk, but where no text is under way -/
structure FnG (P : Program) (w : World) (K : Frag) (mg : Str → Option Value) (base : Heap) (CX : CXT) (k : Nat) (f : Addr) (fd : FuncData) (ps : List Str) (sp : Sp) : Prop where
  len : ∀ vs H Q E, sp vs H Q E → vs.length = ps.length
  run : ∀ (A : Around) (outer : List Env) (s : Shared) (H : Hp) (args : Args) (us : List Value) (vs : List V) (Q : VK) (E : XK), Room k A → A.guards = some [] → Env0 P w K mg base A outer s H → BindsTo s fd args (ps.zip us) → Vals vs us →
    sp vs H Q E → codeAny (model P w) A (.call (.ref f) args) (CR CX outer P w H s Q E) s
section
variable {P : Program} {w : World} {K : Frag} {mg : Str → Option Value} {base : Heap} {CX : CXT} {j k : Nat} {f : Addr} {fd : FuncData} {ps : List Str} {sp : Sp}
theorem FnG.of (F : FnOk P w K mg base CX k f fd ps sp) : FnG P w K mg base CX k f fd ps sp := ⟨F.len, fun A outer s H args us vs Q E hr _ e b r q => F.run A outer s H args us vs Q E hr e b r q⟩
theorem FnG.mono (F : FnG P w K mg base CX j f fd ps sp) (h : j ≤ k) : FnG P w K mg base CX k f fd ps sp := ⟨F.len, fun A outer s H args us vs Q E hr g e b r q => F.run A outer s H args us vs Q E (hr.mono h) g e b r q⟩
/-- a def by its body -/
theorem fnG_of {x qual : Str} {params : Arguments} {body : List Stmt} {scope : Scope} {dvs : List V} {kws : List (Str × V)} {N : List Str} (D : FunD K x qual params body scope dvs kws f fd) (S : FnScope N ps scope)
    (len : ∀ vs H Q E, sp vs H Q E → vs.length = ps.length)
    (hb : ∀ (cd : Value) (A : Around) (outer : List Env) (s : Shared) (H : Hp) (vs : List V) (Q : VK) (E : XK), Room k (A.deeper (envOfC qual scope s.heap.objs.size f cd)) → A.guards = some [] → sp vs H Q E →
      ∃ t, PSs (cxOf CX P w K mg base N qual scope f cd A outer s H E) body t ∧ t { nx := fun _ H' => Q .non H', rt := Q } (L2.start N vs) H) : FnG P w K mg base CX (k + 1) f fd ps sp := by
  obtain ⟨oc, od, dV, kV, doc, pm, an, cd, ct, osl, rfl, lk, hcd, _, _⟩ := D.ex
  constructor
  · exact len
  · intro A outer s H args us vs Q E hr hg e0 bd rv hsp
    have old : ∀ b o, base.get? b = some o → s.heap.get? b = some o := fun b o z => (e0.bs b o z).1
    have inH : K.In s.heap := e0.mod.kin.keeps old
    have kinds : ∀ y ∈ ps.zip us, scope.names.lookup y.1 = some .local ∨ (scope.names.lookup y.1 = some .cell ∧ ((cellsFrom (s.heap.objs.size + 1) scope.names []).lookup y.1).isSome = true) := by
      rintro ⟨y, v⟩ hy
      have := S.par y (List.of_mem_zip hy).1
      rcases this with q | q
      · left; exact q
      · right; exact ⟨q, PySem.W.cellsFrom_some _ _ _ (.inl q)⟩
    apply codeAny_call_function hr.depth (inH _ _ lk) rfl S.co S.gen rfl (PySem.W.codeRec_of inH hcd)
    apply bd
    refine wpAny_newFunctionEnv_cells S.kind kinds ?_
    rintro env rfl s1 ic
    refine ⟨(e0.mod.nolimit.keeps old).keeps ic.toInCall.keep, codeAny_func ?_⟩
    obtain ⟨t, pt, q⟩ := hb cd A outer s H vs Q E (hr.deeper _) hg hsp
    have I0 := inv_start (CX := CX) (E := E) S hr.hd e0 (len _ _ _ _ hsp) rv ic
    refine wpAny_mono (pt.run [] s1 _ H _ I0 q) ?_ fun e s2 z => z
    intro fl s2 z
    have done : ∀ {σ2 : L2.St} {H2 : Hp} {v : V} {u : Value}, Inv (cxOf CX P w K mg base N qual scope f cd A outer s H E) [] σ2 H2 s2 → RelV v u → Q v H2 → CE outer P w H s Q u s2 := by
      intro σ2 H2 v u J r1 q1
      exact ⟨v, H2, J.os, J.bare, J.base, J.hok, r1, q1⟩
    cases fl with
    | brk => exact z.elim fun _ z => z.elim fun _ z => z.2.elim
    | cont => exact z.elim fun _ z => z.elim fun _ z => z.2.elim
    | next =>
      obtain ⟨σ2, H2, J, q2⟩ := z
      exact done (v := .non) (u := .none) J rfl q2
    | ret u =>
      obtain ⟨v, σ2, H2, J, r2, q2⟩ := z
      exact done J r2 q2
end
section
variable {X : Cx} {CX : CXT} {k : Nat} {f : Addr} {fd : FuncData} {ps : List Str} {sp : Sp} {E : XK} {x : Str} {p pos : Pos} {e : Expr} {es : List Expr} {t : TA}
theorem runG {pins : List (Addr × Obj)} {σ : L2.St} {H : Hp} {s : Shared} {Q : VK} {us : List Value} {vs : List V} (F : FnG X.prog X.w X.K X.mg X.base CX k f fd ps sp) (hr : Room k X.A) (hg : X.A.guards = some []) (hb : Binds X.K fd ps []) (hx : Passes CX X E)
    (I : Inv X pins σ H s) (r : Vals vs us) (h : sp vs H Q E) : wpAny (model X.prog X.w) X.A (call (.ref f) us) (EP X pins σ Q) X.xe s := by
  have hl := F.len _ _ _ _ h
  rw [r.length] at hl
  have bd := hb s us I.kIn (by rw [List.append_nil]; exact hl)
  rw [List.append_nil] at bd
  refine wpAny_call (codeAny_mono (F.run X.A X.stack s H ⟨us, []⟩ us vs Q E hr hg I.env0 bd r h) ?_)
  rintro (fl | er) s2 z
  · exact hx pins σ H s _ s2 I z
  · cases er with
    | ret u => exact I.after z
    | _ => exact (show False from z).elim
theorem pe_callG (F : FnG X.prog X.w X.K X.mg X.base CX k f fd ps sp) (hr : Room k X.A) (gd : X.A.guards = some []) (hg : Gl X x) (hm : X.mg x = some (.ref f)) (hk : PySem.W.keepIn X.K (.ref f) = true) (hb : Binds X.K fd ps []) (hx : Passes CX X E)
    (ha : PA X es t) (hdb : (x == ("__debug__" : Str)) = false)
    (he : ∃ a r, es = a :: r ∧ starEach (a :: r) X.env = (false, eval a X.env) :: starEach r X.env ∧ (backTo pos (starEach r X.env)).any (·.1) = false) : PE X (.Call (.Name x p) es [] pos) (tCall sp [] E t) := by
  obtain ⟨a, r, rfl, h1, h2⟩ := he
  constructor
  intro pins s σ H Q I h
  apply wpAny_Call_Name_kw (ld_glob I hg hm ?_ hdb)
  apply PySem.W.callWith_K (h₀ := X.base) I.ok.mod.kin hk (thn (ha.run pos pins s σ H _ I h) ?_) h1 h2
  rintro us s1 ⟨vs, H1, I1, rv, q⟩
  rw [List.append_nil] at q
  exact ⟨I1.kIn, runG F hr gd hb hx I1 rv q⟩
theorem pe_callG0 (F : FnG X.prog X.w X.K X.mg X.base CX k f fd ps sp) (hr : Room k X.A) (gd : X.A.guards = some []) (hg : Gl X x) (hm : X.mg x = some (.ref f)) (hk : PySem.W.keepIn X.K (.ref f) = true) (hb : Binds X.K fd ps []) (hx : Passes CX X E)
    (hdb : (x == ("__debug__" : Str)) = false) : PE X (.Call (.Name x p) [] [] pos) (tCall sp [] E tNil) := by
  constructor
  intro pins s σ H Q I h
  apply wpAny_Call_Name_kw (ld_glob I hg hm ?_ hdb)
  exact PySem.W.callWith_K0 I.kIn hk (runG (us := []) (vs := []) F hr gd hb hx I .nil h)
end
/-! ### the law's own call -/
section
variable {P : Program} {w : World} {K : Frag} {mg mb : Str → Option Value} {CX : CXT} {k : Nat} {fa a : Addr} {fd : FuncData} {x : Str} {sp : Sp} {s0 : Shared} {vs : List Value} {ns : List Int}
/-- what is tracked as the law is called: the script alone, if it is no object of the module's own -/
def Hs (K : Frag) (a : Addr) (vs : List Value) (ns : List Int) : Hp := fun b => if K.lookup a = none ∧ b = a then some (.frz { cls := .type "list", data := .seq vs.toArray } (.lst (ns.map V.int))) else none
theorem hs_at {b : Addr} {u : HO} (h : Hs K a vs ns b = some u) : K.lookup a = none ∧ b = a ∧ u = .frz { cls := .type "list", data := .seq vs.toArray } (.lst (ns.map V.int)) := by
  unfold Hs at h
  split at h
  · rename_i z
    exact ⟨z.1, z.2, (Option.some.inj h).symm⟩
  · cases h
theorem lawG (inK : K.In s0.heap) (names : s0.heap.Ns mainGlobals mg) (bns : s0.heap.Ns builtinsNs mb) (bnm : ∀ x : Str, x ≠ "__name__" → mb x = bootBuiltins x) (lim : s0.heap.NoLimit) (nog : s0.gens = #[])
    (at_ : s0.heap.get? a = some { cls := .type "list", data := .seq vs.toArray }) (ia : IntsAre vs ns) (few : ns.length ≤ sizeLine) (room : Room k callerA)
    (F : ∀ base : Heap, K.In base → base.Ns mainGlobals mg → FnG P w K mg base CX k fa fd [x] sp) (bd : ∀ (s : Shared) (u : Value), BindsTo s fd ⟨[u], []⟩ [(x, u)])
    (pr : ∀ H : Hp, Only H → SqL K H a (ns.map V.int) → sp [.ref a] H (fun v _ => v = .bl true) fun _ _ _ => False) (noX : ∀ H e s', CX [] H s0 (fun _ _ _ => False) e s' → False) :
    codeAny (model P w) callerA (.call (.ref fa) ⟨[.ref a], []⟩) (fun r s' => r = .ok (.ret (.bool true)) ∧ OldK s0.heap s'.heap ∧ s'.os = s0.os ∧ AllBare s'.gens) s0 := by
  have rv := vals_ints ia
  have lv := ia.length
  generalize hH : Hs K a vs ns = H
  have only : Only H := fun b => by
    cases q : H b with
    | none => exact .inl rfl
    | some u =>
      rw [← hH] at q
      obtain ⟨_, _, rfl⟩ := hs_at q
      exact .inr ⟨_, _, rfl⟩
  have sq : SqL K H a (ns.map V.int) := by
    cases q : K.lookup a with
    | none => exact .inl (.inr ⟨_, by rw [← hH]; exact if_pos ⟨q, rfl⟩⟩)
    | some o =>
      have z := inK a o q
      rw [at_] at z
      cases z
      exact .inr ⟨_, vs.toArray, _, q, rfl, rfl, rfl, by rw [List.size_toArray, lv]; exact few, by simpa using rv⟩
  have hok : HOk P w H s0.heap := fun b u z => by
    rw [← hH] at z
    obtain ⟨_, rfl, rfl⟩ := hs_at z
    exact ⟨at_, by rw [List.length_map]; exact few, vs, _, rv, at_⟩
  have nod : ∀ {b : Addr} {o : Obj} {es : Array DictEntry} {ep : Nat}, s0.heap.get? b = some o → o.data = .dict es ep → H b = none := by
    intro b o es ep e d
    cases q : H b with
    | none => rfl
    | some u =>
      rw [← hH] at q
      obtain ⟨_, rfl, _⟩ := hs_at q
      rw [at_] at e
      cases e
      exact absurd (show Data.seq vs.toArray _ = Data.dict es ep from d) (fun z => nomatch z)
  have nsH : ∀ {b : Addr} {m : Str → Option Value}, s0.heap.Ns b m → (hidT s0.heap H).Ns b m := by
    rintro b m ⟨o, es, ep, e, d, r⟩
    exact ⟨o, es, ep, hidT_get e (nod e d), d, r⟩
  have kH : K.In (hidT s0.heap H) := fun b o e => hidT_get (inK b o e) (by
    cases q : H b with
    | none => rfl
    | some u =>
      rw [← hH] at q
      obtain ⟨z, rfl, _⟩ := hs_at q
      rw [z] at e
      cases e)
  obtain ⟨mc, l1, l2⟩ := lim
  have e0 : Env0 P w K mg (hidT s0.heap H) callerA [] s0 H :=
    ⟨rfl, ⟨kH, nsH names, ⟨mb, nsH bns, bnm⟩, ⟨mc, nsH l1, l2⟩⟩, fun b o e => of_hidT e, Nat.le_of_eq (hidT_size _ _), trivial, fun b hb => (nomatch hb), hok, .of_eq nog⟩
  refine codeAny_mono ((F _ kH (nsH names)).run callerA [] s0 H ⟨[.ref a], []⟩ [.ref a] [.ref a] _ _ room rfl e0 (bd s0 (.ref a)) (.cons rfl .nil) (pr H only sq)) ?_
  rintro (fl | er) s2 z
  · exact (noX H _ s2 z).elim
  · cases er with
    | ret u =>
      obtain ⟨v, H2, os, bare, un, hok2, r2, q2⟩ := z
      cases (show v = .bl true from q2)
      cases (show u = Value.bool true from r2)
      refine ⟨rfl, OldK.of_keep fun b o e => ?_, os, bare⟩
      cases q : H b with
      | none => exact un.keep b o e q (fun z => nomatch z) (by simp)
      | some u =>
        rw [← hH] at q
        obtain ⟨z1, rfl, rfl⟩ := hs_at q
        rw [hH] at q
        obtain ⟨e2, _⟩ := hok2 _ _ (un.frzs _ _ _ q)
        rw [at_] at e
        cases e
        exact e2
    | _ => exact (show False from z).elim
end
theorem walk_ofG {l : PySem.W.OpenLaw} {n k : Nat} {q : Program} {loose : List Str} {XP : (Str → Option Value) → Heap → Prop} {YP : World → Heap → Prop} {d : DefRec} {CX : CXT} {x : Str} (hn : l.most = some n) (hn2 : n ≤ sizeLine) (hdf : d.params.defaults = []) (hr : Room k callerA)
    (F : ∀ (w : World) (mg : Str → Option Value) (fa : Addr) (h : Heap), YP w h → h.Ns mainGlobals mg → mg d.name = some (.ref fa) → ∃ (K : Frag) (fd : FuncData) (sp : Sp), K.In h ∧ (∀ (s : Shared) (u : Value), BindsTo s fd ⟨[u], []⟩ [(x, u)]) ∧
      (∀ (H : Hp) (a : Addr) (ns : List Int), ns.length ≤ n → Only H → SqL K H a (ns.map V.int) → sp [.ref a] H (fun v _ => v = .bl true) fun _ _ _ => False) ∧ ∀ base : Heap, K.In base → base.Ns mainGlobals mg → FnG l.prog w K mg base CX k fa fd [x] sp)
    (hCX : ∀ (H : Hp) (s : Shared) (e : Value) (s' : Shared), CX [] H s (fun _ _ _ => False) e s' → False) : PySem.W.WalkO q loose XP YP l.row.toRowW d [] (fun f vs => PySem.call f vs) := by
  apply Att.attach_call hn hdf
  intro w s₀ s₁ mg mb fa o pm cd doc a vs ns G Y ho hd hcd hmg hobj hints hlen hg
  obtain ⟨K, fd, sp, kin, hb, hsp, hF⟩ := F w mg fa _ Y G.T.g hmg
  exact lawG kin G.T.g G.T.b G.T.builtins G.T.nolimit hg hobj hints (Nat.le_trans hlen hn2) hr hF hb (fun H hO hS => hsp H a ns hlen hO hS) fun H e s' => hCX H s₁ e s'
end Ev

set_option Elab.async false
set_option linter.all false
set_option maxRecDepth 100000
set_option maxHeartbeats 4000000
/-! EvR: repr of plain data. -/
namespace Ev
open PySem PySem.Spec PyProof.Rows L2
def shw (d : D) : Str := PyData.shown d.py
def reprOk (d : D) : Bool := D.pl PL d && d.py.showable && PyData.strOk (shw d) && decide ((shw d).length ≤ LIM)
def reprF : List D → Option D
  | [d] => if reprOk d then some (.str (shw d)) else none
  | _ => none
section
variable {X : Cx}
theorem call_reprD (gd : X.A.guards = some []) (hu : X.A.units + 64 < cLine) : CallR X (.builtin "repr") (rP reprF) := by
  intro pins s σ H xs us Q I r h
  obtain ⟨pa, B, ds, e, hd, hr, g, q⟩ := h
  cases ds with
  | nil => cases g
  | cons d ds =>
    cases ds with
    | cons _ _ => cases g
    | nil =>
      obtain ⟨v, rfl, hv⟩ := hr.one
      by_cases ok : reprOk d = true
      · have g' : (if reprOk d = true then some (D.str (shw d)) else none) = some e := g
        rw [if_pos ok] at g'
        cases g'
        unfold reprOk at ok
        simp only [Bool.and_eq_true, decide_eq_true_eq] at ok
        obtain ⟨⟨⟨p1, p2⟩, p3⟩, p4⟩ := ok
        obtain ⟨c1, c2⟩ := D.can d PL p1
        have h20 : PL = 20 := rfl
        have sz : (PyData.shown d.py).length ≤ sizeLine := by rw [lim_eq]; exact p4
        have big : ∀ {a : Addr}, v = V.ref a → wpAny (model X.prog X.w) X.A (call (.builtin "repr") us) (EP X pins σ Q) X.xe s := by
          rintro a rfl
          rw [Vals.ref1 r]
          obtain ⟨as, rd⟩ := RepB.reads (u := .ref a) I p1 hv rfl
          refine repr_of_reads' rd p2 (PyData.noDict_hsm (PyData.hasDict_of_canLay _ c1)) gd (by omega) (fun _ _ e => e) (fun h' u tk k => ?_) sz
          exact ⟨.str (shw d), H, I.kept k, ⟨_, rfl⟩, q _ _ (Ext.refl _) (.str _)⟩
        cases d with
        | non =>
          have e1 := hv.non; subst e1
          obtain ⟨u, rfl, rfl⟩ := vals1 r
          exact PySem.P.repr_of_none ⟨.str _, H, I.tok _, ⟨_, rfl⟩, q _ _ (Ext.refl _) (.str _)⟩
        | bl b =>
          have e1 := hv.bl; subst e1
          obtain ⟨u, rfl, rfl⟩ := vals1 r
          exact PySem.P.repr_of_bool ⟨.str _, H, I.tok _, ⟨_, rfl⟩, q _ _ (Ext.refl _) (by cases b <;> exact .str _)⟩
        | int i =>
          have e1 := hv.int; subst e1
          obtain ⟨u, rfl, t, rfl⟩ := vals1 r
          have p2 : decide (i.natAbs.log2 < 1920) = true := by simpa [D.py, PyData.showable] using p2
          exact PySem.P.repr_of_int (of_decide_eq_true p2) ⟨.str _, H, I.tok _, ⟨_, rfl⟩, q _ _ (Ext.refl _) (.str _)⟩
        | str y =>
          have e1 := hv.str; subst e1
          obtain ⟨u, rfl, t, rfl⟩ := vals1 r
          exact PySem.P.repr_of_str ⟨.str _, H, I.tok _, ⟨_, rfl⟩, q _ _ (Ext.refl _) (.str _)⟩ (by simpa [D.py, PyData.shown] using sz)
        | tup ys =>
          obtain ⟨a, zs, e1, _⟩ := hv.tup
          exact big e1
        | lst ys =>
          obtain ⟨a, zs, e1, _⟩ := hv.lst
          exact big e1
        | xt ys =>
          obtain ⟨a, o, zs, e1, _⟩ := hv.xt
          exact big e1
        | _ => exact absurd p1 (by simp [D.pl, PL])
      · have g' : (if reprOk d = true then some (D.str (shw d)) else none) = some e := g
        rw [if_neg ok] at g'
        cases g'
end
end Ev

set_option Elab.async false
set_option linter.all false
set_option maxRecDepth 100000
set_option maxHeartbeats 4000000
/-! EvD: dicts: what they hold, what is stored. -/
namespace Ev
open PySem PySem.Spec PyProof.Rows L2

/-! ### keys -/
mutual
theorem hash0_ok (w : World) : ∀ (k : D) (n : Nat), kPt n k = true → hash0 (nkD k) = (nkD k).hash w
  | .int i, n, h => by simp [nkD, hash0, NestedKey.hash]
  | .tup xs, n, h => by
    cases n with
    | zero => simp [kPt] at h
    | succ n =>
      rw [kPt] at h
      simp only [nkD, hash0, NestedKey.hash, hashes0_ok w xs n h]
  | .xt xs, n, h => by
    cases n with
    | zero => simp [kPt] at h
    | succ n =>
      rw [kPt] at h
      simp only [nkD, hash0, NestedKey.hash, hashes0_ok w xs n h]
  | .non, n, h => by cases n <;> simp [kPt] at h
  | .bl _, n, h => by cases n <;> simp [kPt] at h
  | .str _, n, h => by cases n <;> simp [kPt] at h
  | .lst _, n, h => by cases n <;> simp [kPt] at h
  | .dct _ _ _, n, h => by cases n <;> simp [kPt] at h
  | .set _, n, h => by cases n <;> simp [kPt] at h
  | .rng _ _, n, h => by cases n <;> simp [kPt] at h
  | .pot, n, h => by cases n <;> simp [kPt] at h
  | .exc _ _, n, h => by cases n <;> simp [kPt] at h
  | .clo _ _, n, h => by cases n <;> simp [kPt] at h
  | .opq _, n, h => by cases n <;> simp [kPt] at h
theorem hashes0_ok (w : World) : ∀ (ks : List D) (n : Nat), kPtL n ks = true → hashes0 (nkL ks) = NestedKey.hashes w (nkL ks)
  | [], n, h => by simp [nkL, hashes0, NestedKey.hashes]
  | k :: ks, n, h => by
    rw [kPtL, Bool.and_eq_true] at h
    simp only [nkL, hashes0, NestedKey.hashes, hash0_ok w k n h.1, hashes0_ok w ks n h.2]
end
mutual
theorem depth_ok : ∀ (k : D) (n : Nat), kPt n k = true → (nkD k).depth ≤ n
  | .int i, n, h => by simp [nkD, NestedKey.depth]
  | .tup xs, n, h => by
    cases n with
    | zero => simp [kPt] at h
    | succ n =>
      rw [kPt] at h
      have := depths_ok xs n h
      simp only [nkD, NestedKey.depth]
      omega
  | .xt xs, n, h => by
    cases n with
    | zero => simp [kPt] at h
    | succ n =>
      rw [kPt] at h
      have := depths_ok xs n h
      simp only [nkD, NestedKey.depth]
      omega
  | .non, n, h => by cases n <;> simp [kPt] at h
  | .bl _, n, h => by cases n <;> simp [kPt] at h
  | .str _, n, h => by cases n <;> simp [kPt] at h
  | .lst _, n, h => by cases n <;> simp [kPt] at h
  | .dct _ _ _, n, h => by cases n <;> simp [kPt] at h
  | .set _, n, h => by cases n <;> simp [kPt] at h
  | .rng _ _, n, h => by cases n <;> simp [kPt] at h
  | .pot, n, h => by cases n <;> simp [kPt] at h
  | .exc _ _, n, h => by cases n <;> simp [kPt] at h
  | .clo _ _, n, h => by cases n <;> simp [kPt] at h
  | .opq _, n, h => by cases n <;> simp [kPt] at h
theorem depths_ok : ∀ (ks : List D) (n : Nat), kPtL n ks = true → NestedKey.depthAll (nkL ks) ≤ n
  | [], n, h => by simp [nkL, NestedKey.depthAll]
  | k :: ks, n, h => by
    rw [kPtL, Bool.and_eq_true] at h
    have := depth_ok k n h.1
    have := depths_ok ks n h.2
    simp only [nkL, NestedKey.depthAll]
    omega
end
/-- at b stands the key k -/
def KeyT (H : Hp) (k : NestedKey) (b : Addr) : Prop := k.depth ≤ 8 ∧ (∀ w : World, hash0 k = k.hash w) ∧ ∀ (P : Program) (w : World) (h : Heap), HOk P w H h → NestedIs h k (.ref b)
section
variable {pa : Option Addr} {B : AP} {H : Hp}
theorem objT {P : Program} {w : World} {h : Heap} {a : Addr} {xs : List V} (hk : HOk P w H h) (e : H a = some (.tup xs) ∨ ∃ o, H a = some (.frz o (.tup xs))) : ∃ its : List Value, Vals xs its ∧ IsTup h a its.toArray := by
  rcases e with e | ⟨o, e⟩
  · obtain ⟨_, its, r, t⟩ := (show ObjOk P w H h a (.tup xs) from hk a _ e)
    exact ⟨its, r, t⟩
  · obtain ⟨_, _, its, r, t⟩ := (show ObjOk P w H h a (.frz o (.tup xs)) from hk a _ e)
    exact ⟨its, r, t⟩
mutual
theorem rep_nested {P : Program} {w : World} {h : Heap} (hk : HOk P w H h) : ∀ (d : D) (n : Nat) {v : V} {u : Value}, kPt n d = true → Rep pa B H v d → RelV v u → NestedIs h (nkD d) u
  | .int i, n, v, u, _, r, q => by
    cases r
    obtain ⟨t, rfl⟩ := q
    exact .int i t
  | .tup xs, n, v, u, p, r, q => by
    cases n with
    | zero => simp [kPt] at p
    | succ n =>
      rw [kPt] at p
      cases r with
      | tup h1 _ h2 =>
        obtain rfl : u = Value.ref _ := q
        obtain ⟨its, rv, o, g1, g2, m, g3⟩ := objT hk (.inl h1)
        exact .tup g1 g2 g3 (by simpa using rep_nesteds hk xs n p h2 rv)
  | .xt xs, n, v, u, p, r, q => by
    cases n with
    | zero => simp [kPt] at p
    | succ n =>
      rw [kPt] at p
      cases r with
      | xt h1 _ _ h2 =>
        obtain rfl : u = Value.ref _ := q
        obtain ⟨its, rv, o, g1, g2, m, g3⟩ := objT hk (.inr ⟨_, h1⟩)
        exact .tup g1 g2 g3 (by simpa using rep_nesteds hk xs n p h2 rv)
  | .non, n, _, _, p, _, _ => by cases n <;> simp [kPt] at p
  | .bl _, n, _, _, p, _, _ => by cases n <;> simp [kPt] at p
  | .str _, n, _, _, p, _, _ => by cases n <;> simp [kPt] at p
  | .lst _, n, _, _, p, _, _ => by cases n <;> simp [kPt] at p
  | .dct _ _ _, n, _, _, p, _, _ => by cases n <;> simp [kPt] at p
  | .set _, n, _, _, p, _, _ => by cases n <;> simp [kPt] at p
  | .rng _ _, n, _, _, p, _, _ => by cases n <;> simp [kPt] at p
  | .pot, n, _, _, p, _, _ => by cases n <;> simp [kPt] at p
  | .exc _ _, n, _, _, p, _, _ => by cases n <;> simp [kPt] at p
  | .clo _ _, n, _, _, p, _, _ => by cases n <;> simp [kPt] at p
  | .opq _, n, _, _, p, _, _ => by cases n <;> simp [kPt] at p
theorem rep_nesteds {P : Program} {w : World} {h : Heap} (hk : HOk P w H h) : ∀ (ds : List D) (n : Nat) {vs : List V} {us : List Value}, kPtL n ds = true → RepL pa B H vs ds → Vals vs us → NestedAll h (nkL ds) us
  | [], n, vs, us, p, r, q => by
    cases r
    cases q
    exact .nil
  | d :: ds, n, vs, us, p, r, q => by
    rw [kPtL, Bool.and_eq_true] at p
    cases r with
    | cons r1 r2 =>
      cases q with
      | cons q1 q2 => exact .cons (rep_nested hk d n p.1 r1 q1) (rep_nesteds hk ds n p.2 r2 q2)
end
theorem kOk_pt {d : D} (h : kOk d = true) : kPt 8 d = true := by
  cases d <;> first | exact h | cases h
theorem rep_key {d : D} {v : V} (p : kOk d = true) (r : Rep pa B H v d) : ∃ b, v = .ref b ∧ KeyT H (nkD d) b := by
  have hv : ∃ b, v = .ref b := by
    cases d with
    | tup xs => cases r; exact ⟨_, rfl⟩
    | xt xs => cases r; exact ⟨_, rfl⟩
    | _ => cases p
  obtain ⟨b, rfl⟩ := hv
  exact ⟨b, rfl, depth_ok d 8 (kOk_pt p), fun w => hash0_ok w d 8 (kOk_pt p), fun P w h hk => rep_nested hk d 8 (kOk_pt p) r rfl⟩
end

/-! ### raw dicts -/
abbrev XE := NestedKey × Addr × V
def lookX (xs : List XE) (k : NestedKey) : Option V := (xs.find? fun x => decide (x.1 = k)).map (·.2.2)
def rawX (a : Addr) (xs : List XE) : HO := RawE a (xs.map fun x => hash0 x.1) (xs.map fun x => V.ref x.2.1) (xs.map (·.2.2))
def putX (xs : List XE) (k : NestedKey) (b : Addr) (v : V) : List XE := if (lookX xs k).isSome then xs.map (fun x => if x.1 = k then (x.1, x.2.1, v) else x) else xs ++ [(k, b, v)]
structure RawOk (H : Hp) (a : Addr) (xs : List XE) : Prop where
  at_ : Rd H a (rawX a xs)
  nd : (xs.map (·.1)).Nodup
  ks : ∀ x ∈ xs, KeyT H x.1 x.2.1
abbrev XV : List XE → List (NestedKey × Addr × Value) → Prop := Paired fun x y => x.1 = y.1 ∧ x.2.1 = y.2.1 ∧ RelV x.2.2 y.2.2
theorem ents_of : ∀ {xs : List XE} {es : List DictEntry}, Ents (xs.map fun x => hash0 x.1) (xs.map fun x => V.ref x.2.1) (xs.map (·.2.2)) es → ∃ ys : List (NestedKey × Addr × Value), XV xs ys ∧ es = ys.map fun y => ⟨hash0 y.1, .ref y.2.1, y.2.2⟩
  | [], es, h => by
    cases h
    exact ⟨[], .nil, rfl⟩
  | x :: xs, _, h => by
    generalize h1 : (x :: xs).map (fun x => hash0 x.1) = hs at h
    generalize h2 : (x :: xs).map (fun x => V.ref x.2.1) = kx at h
    generalize h3 : (x :: xs).map (·.2.2) = vx at h
    cases h with
    | nil => cases h1
    | @cons e k v hs' ks' vs' es' rk rv t =>
      rw [List.map_cons] at h1 h2 h3
      injection h1 with a1 a2
      injection h2 with b1 b2
      injection h3 with c1 c2
      subst a2 b2 c2 b1 c1
      obtain ⟨ys, p, rfl⟩ := ents_of t
      refine ⟨(x.1, x.2.1, e.val) :: ys, .cons ⟨rfl, rfl, rv⟩ p, ?_⟩
      rw [List.map_cons]
      congr 1
      cases e with
      | mk hh kk vv =>
        obtain rfl : kk = Value.ref x.2.1 := rk
        simp only at a1
        rw [a1]
theorem ents_to : ∀ {xs : List XE} {ys : List (NestedKey × Addr × Value)}, XV xs ys → Ents (xs.map fun x => hash0 x.1) (xs.map fun x => V.ref x.2.1) (xs.map (·.2.2)) (ys.map fun y => ⟨hash0 y.1, .ref y.2.1, y.2.2⟩)
  | _, _, .nil => .nil
  | _, _, .cons (a := x) (b := y) ⟨h1, h2, h3⟩ t => by
    rw [List.map_cons, List.map_cons, List.map_cons, List.map_cons, h1, h2]
    exact .cons (e := ⟨hash0 y.1, .ref y.2.1, y.2.2⟩) rfl h3 (ents_to t)
theorem xv_keys : ∀ {xs : List XE} {ys : List (NestedKey × Addr × Value)}, XV xs ys → xs.map (·.1) = ys.map (·.1) ∧ (∀ y ∈ ys, ∃ x ∈ xs, x.1 = y.1 ∧ x.2.1 = y.2.1)
  | _, _, .nil => ⟨rfl, fun _ h => nomatch h⟩
  | _, _, .cons (a := x) (b := y) ⟨h1, h2, h3⟩ t => by
    obtain ⟨q1, q2⟩ := xv_keys t
    refine ⟨by rw [List.map_cons, List.map_cons, h1, q1], fun z hz => ?_⟩
    rcases List.mem_cons.mp hz with rfl | hz
    · exact ⟨x, List.mem_cons_self, h1, h2⟩
    · obtain ⟨x', m, e⟩ := q2 z hz
      exact ⟨x', List.mem_cons_of_mem _ m, e⟩
theorem xv_look (k : NestedKey) : ∀ {xs : List XE} {ys : List (NestedKey × Addr × Value)}, XV xs ys → RelO (lookX xs k) ((atKey ys k).map (·.2))
  | _, _, .nil => trivial
  | _, _, .cons (a := x) (b := y) ⟨h1, h2, h3⟩ t => by
    have ih := xv_look k t
    unfold lookX atKey at *
    by_cases e : y.1 = k
    · rw [List.find?_cons_of_pos (by simpa [h1] using e), List.find?_cons_of_pos (by simpa using e)]
      exact h3
    · rw [List.find?_cons_of_neg (by simpa [h1] using e), List.find?_cons_of_neg (by simpa using e)]
      exact ih
theorem xv_put {k : NestedKey} {b : Addr} {v : V} {u : Value} (hv : RelV v u) {xs : List XE} {ys : List (NestedKey × Addr × Value)} (h : XV xs ys) : XV (putX xs k b v) (storedH ys k b u) := by
  have hl := xv_look k h
  have hs : (lookX xs k).isSome = (atKey ys k).isSome := by
    have := hl.isSome_eq
    rw [Option.isSome_map] at this
    exact this
  unfold putX storedH
  rw [hs]
  split
  · rename_i q
    clear hs hl q
    induction h with
    | nil => exact .nil
    | @cons x y xs ys h t ih =>
      rw [List.map_cons, List.map_cons]
      refine .cons ?_ ih
      obtain ⟨h1, h2, h3⟩ := h
      unfold putAt
      rw [h1]
      split
      · exact ⟨rfl, h2, hv⟩
      · exact ⟨h1, h2, h3⟩
  · rename_i q
    clear hs hl q
    induction h with
    | nil => exact .cons ⟨rfl, rfl, hv⟩ .nil
    | @cons x y xs ys h t ih => exact .cons h ih
theorem xv_len {xs : List XE} {ys : List (NestedKey × Addr × Value)} (h : XV xs ys) : xs.length = ys.length := Paired.length h
section
variable {X : Cx} {pins : List (Addr × Obj)} {σ : L2.St} {H : Hp} {s : Shared} {a : Addr} {xs : List XE}
theorem raw_ok {P : Program} {w : World} {h : Heap} (hk : HOk P w H h) (r : RawOk H a xs) : ∃ ys, XV xs ys ∧ h.DictOfH (nestedKind P w) a ys ∧ (a == sysModules) = false ∧ xs.length ≤ sizeLine := by
  obtain ⟨⟨z, hd, o, es, ep, h1, h2, h3, h4⟩, _, _⟩ := (show ObjOk P w H h a (rawX a xs) from rd_of hk r.at_)
  obtain ⟨ys, p, e⟩ := ents_of h4
  obtain ⟨q1, q2⟩ := xv_keys p
  refine ⟨ys, p, ⟨o, es, ep, h1, h2, h3, ?_, fun y hy => ?_, by rw [← q1]; exact r.nd⟩, hd, by simpa using z⟩
  · rw [e]
    refine List.map_congr_left fun y hy => ?_
    obtain ⟨x, hx, e1, e2⟩ := q2 y hy
    unfold entryOfKey
    rw [← e1, (r.ks x hx).2.1 w]
    rfl
  · obtain ⟨x, hx, e1, e2⟩ := q2 y hy
    have := r.ks x hx
    rw [← e1, ← e2]
    exact ⟨this.2.2 P w h hk, this.1⟩
theorem key_is {P : Program} {w : World} {h : Heap} {k : NestedKey} {b : Addr} (hk : HOk P w H h) (q : KeyT H k b) : (nestedKind P w).is h k b := ⟨q.2.2 P w h hk, q.1⟩
theorem raw_new {P : Program} {w : World} {H' : Hp} {h' : Heap} {ys : List (NestedKey × Addr × Value)} (hz : xs.length ≤ sizeLine) (hd : (a == sysModules) = false) (p : XV xs ys) (hh : ∀ x ∈ xs, hash0 x.1 = (x.1).hash w) (dd : h'.DictOfH (nestedKind P w) a ys) : ObjOk P w H' h' a (rawX a xs) := by
  obtain ⟨o, es, ep, h1, h2, h3, h4, h5, h6⟩ := dd
  have e : es.toList = ys.map fun y => (⟨hash0 y.1, .ref y.2.1, y.2.2⟩ : DictEntry) := by
    rw [h4]
    refine List.map_congr_left fun y hy => ?_
    obtain ⟨x, hx, e1, _⟩ := (xv_keys p).2 y hy
    unfold entryOfKey
    rw [← e1, hh x hx]
    rfl
  refine ⟨⟨by simpa using hz, hd, o, es, ep, h1, h2, h3, by rw [e]; exact ents_to p⟩, ⟨o, h1⟩, fun g1 g2 ⟨z, d, o, es, ep, q1, q2, q3, q4⟩ st => ⟨z, d, o, es, ep, st _ q1, q2, q3, q4⟩⟩
end

/-! ### any dict: reading, storing -/
def AGet (H : Hp) (a : Addr) (y : V) (r : Option V) : Prop := DGet H a y r ∨ ∃ xs k b, RawOk H a xs ∧ y = .ref b ∧ KeyT H k b ∧ r = lookX xs k
/-- what stands at a, locked, behind a[y] = v -/
def APut (H : Hp) (a : Addr) (y v : V) (u' : HO) : Prop := (∃ od kvs k, H a = some (.frz od (.dK kvs)) ∧ y = kV k ∧ kvs.length < sizeLine ∧ u' = .dK (putK kvs k v)) ∨
  ∃ od xs k b, H a = some (.frz od (rawX a xs)) ∧ (xs.map (·.1)).Nodup ∧ (∀ x ∈ xs, KeyT H x.1 x.2.1) ∧ y = .ref b ∧ KeyT H k b ∧ xs.length < sizeLine ∧ u' = rawX a (putX xs k b v)
section
variable {X : Cx} {pins : List (Addr × Obj)} {σ : L2.St} {H : Hp} {s : Shared} {a : Addr} {y v : V} {u r : Value} {o : Option V} {A : Around} {E : Value → Shared → Prop}
theorem room8 (hu : A.units + 64 < cLine) : (nestedKind X.prog X.w).room A.in1 := by
  show A.units + 1 + 8 < cLine
  omega
theorem a_getItem {Q : Value → Shared → Prop} (hu : A.units + 64 < cLine) (I : Inv X pins σ H s) (g : AGet H a y (some v)) (ry : RelV y u) (h : ∀ w' s', Inv X pins σ H s' → RelV v w' → Q w' s') :
    wpAny (model X.prog X.w) A (getItem (.ref a) u) Q E s := by
  rcases g with g | ⟨xs, k, b, r, ey, eb, l⟩
  · exact d_getItem (by omega) I g ry h
  · subst ey
    cases (show u = Value.ref b from ry)
    obtain ⟨ys, p, dd, hd, hz⟩ := raw_ok I.hok r
    obtain ⟨w', hw, rw'⟩ := RelO.some_of (v := v) (o := (atKey ys k).map (·.2)) (by rw [l]; exact xv_look k p)
    obtain ⟨q, hp, hp2⟩ := Option.map_eq_some_iff.mp hw
    refine wpAny_getItem_heap (room8 hu) (key_is I.hok eb) dd hp ?_
    rw [hp2]
    exact h w' _ (I.tok _) rw'
theorem a_in {Q : Value → Shared → Prop} (hu : A.units + 64 < cLine) (I : Inv X pins σ H s) (g : AGet H a y o) (ry : RelV y u) (h : ∀ s', Inv X pins σ H s' → Q (.bool o.isSome) s') :
    wpAny (model X.prog X.w) A (compareOp .In u (.ref a)) Q E s := by
  rcases g with g | ⟨xs, k, b, r, ey, eb, l⟩
  · exact d_in (by omega) I g ry h
  · subst ey
    cases (show u = Value.ref b from ry)
    obtain ⟨ys, p, dd, hd, hz⟩ := raw_ok I.hok r
    refine wpAny_in_heap (room8 hu) (key_is I.hok eb) hd dd ?_
    have q := (xv_look k p).isSome_eq
    rw [Option.isSome_map] at q
    rw [← q, ← l]
    exact h _ (I.tok _)
theorem a_notIn {Q : Value → Shared → Prop} (hu : A.units + 64 < cLine) (I : Inv X pins σ H s) (g : AGet H a y o) (ry : RelV y u) (h : ∀ s', Inv X pins σ H s' → Q (.bool (!o.isSome)) s') :
    wpAny (model X.prog X.w) A (compareOp .NotIn u (.ref a)) Q E s := by
  rcases g with g | ⟨xs, k, b, r, ey, eb, l⟩
  · exact d_notIn (by omega) I g ry h
  · subst ey
    cases (show u = Value.ref b from ry)
    obtain ⟨ys, p, dd, hd, hz⟩ := raw_ok I.hok r
    refine wpAny_notIn_heap (room8 hu) (key_is I.hok eb) hd dd ?_
    have q := (xv_look k p).isSome_eq
    rw [Option.isSome_map] at q
    rw [← q, ← l]
    exact h _ (I.tok _)
theorem putX_mem {xs : List XE} {k : NestedKey} {b : Addr} {v : V} {x : XE} (h : x ∈ putX xs k b v) : (∃ x' ∈ xs, x'.1 = x.1 ∧ x'.2.1 = x.2.1) ∨ (x.1 = k ∧ x.2.1 = b) := by
  unfold putX at h
  split at h
  · obtain ⟨x', h1, rfl⟩ := List.mem_map.mp h
    refine .inl ⟨x', h1, ?_⟩
    split <;> exact ⟨rfl, rfl⟩
  · rcases List.mem_append.mp h with h | h
    · exact .inl ⟨x, h, rfl, rfl⟩
    · cases List.mem_singleton.mp h
      exact .inr ⟨rfl, rfl⟩
theorem putX_len (xs : List XE) (k : NestedKey) (b : Addr) (v : V) : (putX xs k b v).length ≤ xs.length + 1 := by
  unfold putX
  split <;> simp
theorem a_setItem {u' : HO} {Q : Unit → Shared → Prop} (hu : A.units + 64 < cLine) (I : Inv X pins σ H s) (hn : ∀ o' u', X.H_0 a ≠ some (.frz o' u')) (g : APut H a y v u') (ry : RelV y u) (rv : RelV v r) (h : ∀ od s', Inv X pins σ (upd H a (.frz od u')) s' → Q () s') :
    wpAny (model X.prog X.w) A (setItem (.ref a) u r) Q E s := by
  rcases g with ⟨od, kvs, k, e, ey, l, eu⟩ | ⟨od, xs, k, b, e, nd, ks, ey, eb, l, eu⟩
  · subst eu
    have I1 := I.unlock e hn
    refine d_setItem (by omega) I1 (.inl ⟨kvs, k, upd_same, ey, l, rfl⟩) ry rv fun s' I2 => ?_
    rw [upd_upd] at I2
    obtain ⟨od', I3⟩ := I2.lock upd_same trivial
    rw [upd_upd] at I3
    exact h od' s' I3
  · subst ey eu
    cases (show u = Value.ref b from ry)
    obtain ⟨ys, p, dd, hd, hz⟩ := raw_ok I.hok (a := a) (xs := xs) ⟨.inr ⟨od, e⟩, nd, ks⟩
    have I1 := I.unlock e hn
    refine wpAny_setItem_heap (room8 hu) (key_is I.hok eb) dd (fun h' hm' hs' => ?_) (by rw [← xv_len p]; exact hz)
    have I2 : Inv X pins σ (upd (upd H a (rawX a xs)) a (rawX a (putX xs k b v))) { s with heap := h', toks := s.toks + (nestedKind X.prog X.w).draws k } := by
      refine d_write I1 ?_ hs' ?_ ?_
      · rw [upd_same]
        exact trivial
      · obtain ⟨o, _, _, ho, _⟩ := hm'
        exact ⟨o, ho⟩
      · refine raw_new (by have := putX_len xs k b v; omega) hd (xv_put rv p) (fun x hx => ?_) hm'
        rcases putX_mem hx with ⟨x', h1, e1, _⟩ | ⟨e1, _⟩
        · rw [← e1]
          exact (ks x' h1).2.1 _
        · rw [e1]
          exact eb.2.1 _
    rw [upd_upd] at I2
    obtain ⟨od', I3⟩ := I2.lock upd_same trivial
    rw [upd_upd] at I3
    exact h od' _ I3
theorem a_get2 {d : V} {q : Value} {Q : Value → Shared → Prop} (hu : A.units + 64 < cLine) (I : Inv X pins σ H s) (g : AGet H a y o) (ry : RelV y u) (rd : RelV d q) (h : ∀ w' s', Inv X pins σ H s' → RelV (o.getD d) w' → Q w' s') :
    wpAny (model X.prog X.w) A (call (.builtin "dict.get") [.ref a, u, q]) Q E s := by
  rcases g with g | ⟨xs, k, b, r, ey, eb, l⟩
  · exact d_get2 (by omega) I g ry rd h
  · subst ey
    cases (show u = Value.ref b from ry)
    obtain ⟨ys, p, dd, hd, hz⟩ := raw_ok I.hok r
    refine call_meetsIn PySem.F.slot_dict_get dd.typeIs PySem.F.entry_dict_get (PySem.F.args_dict_get_3 _ _ _) (meetsH_dict_get_default (nestedKind X.prog X.w) a b hd q) ⟨room8 hu, k, ys, key_is I.hok eb, dd, h _ _ (I.tok _) ?_⟩
    rw [l]
    exact (xv_look k p).getD rd
theorem aget_dict (I : Inv X pins σ H s) (g : AGet H a y o) : s.TypeIs (.ref a) "dict" ∧ ∀ b, Value.ref a = .ref b → ∃ ob, s.heap.get? b = some ob ∧ ob.dict = none := by
  rcases g with g | ⟨xs, k, b, r, ey, eb, l⟩
  · exact ⟨dict_typeIs I g, dict_noDict I g⟩
  · obtain ⟨ys, p, dd, hd, hz⟩ := raw_ok I.hok r
    refine ⟨dd.typeIs, fun b q => ?_⟩
    cases q
    obtain ⟨ob, _, _, h1, h2, _⟩ := dd
    exact ⟨ob, h1, h2.2.1⟩
end
end Ev

set_option Elab.async false
set_option linter.all false
set_option maxRecDepth 100000
set_option maxHeartbeats 4000000
/-! EvD2: dicts as data. -/
namespace Ev
open PySem PySem.Spec PyProof.Rows L2
def lookD : List D → List D → D → Option D
  | k :: ks, v :: vs, x => if nkD k = nkD x then some v else lookD ks vs x
  | _, _, _ => none
def replD : List D → List D → D → D → List D
  | k :: ks, v :: vs, x, y => (if nkD k = nkD x then y else v) :: replD ks vs x y
  | _, _, _, _ => []
/-- keys and values behind d[x] = y -/
def putD (ks vs : List D) (x y : D) : List D × List D := if (lookD ks vs x).isSome then (ks, replD ks vs x y) else (ks ++ [x], vs ++ [y])
def isK : D → Bool
  | .int _ => true
  | .str _ => true
  | _ => false
def keyOk (t : Bool) (d : D) : Bool := if t then kOk d else isK d
def keyD : Key → D
  | .inl n => .int n
  | .inr x => .str x
theorem nk_keyD {a b : Key} : nkD (keyD a) = nkD (keyD b) ↔ a = b := by
  cases a <;> cases b <;> simp [keyD, nkD]
theorem isK_key {d : D} (h : isK d = true) : ∃ k, d = keyD k := by
  cases d with
  | int n => exact ⟨.inl n, rfl⟩
  | str x => exact ⟨.inr x, rfl⟩
  | _ => cases h
section
variable {pa : Option Addr} {B : AP} {H : Hp}
theorem rep_kV {k : Key} {d : D} (h : Rep pa B H (kV k) d) : d = keyD k := by
  cases k with
  | inl n =>
    generalize e : kV (Sum.inl n : Key) = v at h
    cases h <;> first | (cases e; rfl) | cases e
  | inr x =>
    generalize e : kV (Sum.inr x : Key) = v at h
    cases h <;> first | (cases e; rfl) | cases e
theorem key_rep {k : Key} {v : V} (h : Rep pa B H v (keyD k)) : v = kV k := by
  cases k with
  | inl n => cases h; rfl
  | inr x => cases h; rfl
/-- what is found: nothing, or what stands for it -/
def OptR (pa : Option Addr) (B : AP) (H : Hp) (o : Option V) : Option D → Prop
  | none => o = none
  | some d => ∃ w, o = some w ∧ Rep pa B H w d
theorem OptR.isSome {o : Option V} {r : Option D} (h : OptR pa B H o r) : o.isSome = r.isSome := by
  cases r with
  | none => rw [show o = none from h]; rfl
  | some d => obtain ⟨w, e, _⟩ := h; rw [e]; rfl
theorem look_k {k : Key} : ∀ {kvs : List (Key × V)} {ks vs : List D}, RepL pa B H (kvs.map fun p => kV p.1) ks → RepL pa B H (kvs.map (·.2)) vs → OptR pa B H (valV kvs k) (lookD ks vs (keyD k))
  | [], ks, vs, h1, h2 => by
    cases h1
    exact rfl
  | p :: kvs, ks, vs, h1, h2 => by
    cases ks with
    | nil => cases h1
    | cons k1 ks =>
      cases vs with
      | nil => cases h2
      | cons v1 vs =>
        cases h1 with
        | cons a1 a2 =>
          cases h2 with
          | cons b1 b2 =>
            have e := rep_kV a1
            subst e
            rw [lookD]
            by_cases q : p.1 = k
            · rw [if_pos (nk_keyD.mpr q), valV_pos q]
              exact ⟨_, rfl, b1⟩
            · rw [if_neg (fun z => q (nk_keyD.mp z)), valV_neg q]
              exact look_k a2 b2
theorem repl_k {k : Key} {v : V} {d : D} (hv : Rep pa B H v d) : ∀ {kvs : List (Key × V)} {ks vs : List D}, RepL pa B H (kvs.map fun p => kV p.1) ks → RepL pa B H (kvs.map (·.2)) vs → RepL pa B H ((kvs.map fun p => if p.1 = k then (p.1, v) else p).map fun p => kV p.1) ks ∧ RepL pa B H ((kvs.map fun p => if p.1 = k then (p.1, v) else p).map (·.2)) (replD ks vs (keyD k) d)
  | [], ks, vs, h1, h2 => by
    cases h1
    exact ⟨.nil, .nil⟩
  | p :: kvs, ks, vs, h1, h2 => by
    cases ks with
    | nil => cases h1
    | cons k1 ks =>
      cases vs with
      | nil => cases h2
      | cons v1 vs =>
        cases h1 with
        | cons a1 a2 =>
          cases h2 with
          | cons b1 b2 =>
            have e := rep_kV a1
            subst e
            obtain ⟨c1, c2⟩ := repl_k (k := k) hv a2 b2
            rw [List.map_cons, List.map_cons, List.map_cons, replD]
            by_cases q : p.1 = k
            · rw [if_pos q, if_pos (nk_keyD.mpr q)]
              exact ⟨.cons a1 c1, .cons hv c2⟩
            · rw [if_neg q, if_neg (fun z => q (nk_keyD.mp z))]
              exact ⟨.cons a1 c1, .cons b1 c2⟩
/-- the entries of a raw dict -/
theorem raw_xs {a : Addr} : ∀ {ks : List D} {kxs vxs : List V}, RepL pa B H kxs ks → (∀ k ∈ ks, kOk k = true) → vxs.length = ks.length → ∃ xs : List XE, xs.map (·.1) = ks.map nkD ∧ xs.map (fun x => V.ref x.2.1) = kxs ∧ xs.map (·.2.2) = vxs ∧ ∀ x ∈ xs, KeyT H x.1 x.2.1
  | [], _, vxs, h, _, l => by
    cases h
    cases vxs with
    | nil => exact ⟨[], rfl, rfl, rfl, fun _ h => nomatch h⟩
    | cons _ _ => simp at l
  | k :: ks, _, vxs, h, hk, l => by
    cases h with
    | cons h1 h2 =>
      cases vxs with
      | nil => simp at l
      | cons v vxs =>
        obtain ⟨xs, e1, e2, e3, e4⟩ := raw_xs (a := a) h2 (fun k' m => hk k' (List.mem_cons_of_mem _ m)) (by simpa using l)
        obtain ⟨b, rfl, q⟩ := rep_key (hk k List.mem_cons_self) h1
        refine ⟨(nkD k, b, v) :: xs, by simp [e1], by simp [e2], by simp [e3], fun x hx => ?_⟩
        rcases List.mem_cons.mp hx with rfl | hx
        · exact q
        · exact e4 x hx
theorem look_x {kd : D} : ∀ {xs : List XE} {ks vs : List D}, xs.map (·.1) = ks.map nkD → RepL pa B H (xs.map (·.2.2)) vs → OptR pa B H (lookX xs (nkD kd)) (lookD ks vs kd)
  | [], ks, vs, h1, h2 => by
    cases ks with
    | nil => exact rfl
    | cons _ _ => simp at h1
  | x :: xs, ks, vs, h1, h2 => by
    cases ks with
    | nil => simp at h1
    | cons k ks =>
      cases vs with
      | nil => cases h2
      | cons v vs =>
        rw [List.map_cons, List.map_cons] at h1
        injection h1 with a1 a2
        cases h2 with
        | cons b1 b2 =>
          rw [lookD]
          unfold lookX
          by_cases q : nkD k = nkD kd
          · rw [if_pos q, List.find?_cons_of_pos (by simpa [a1] using q)]
            exact ⟨_, rfl, b1⟩
          · rw [if_neg q, List.find?_cons_of_neg (by simpa [a1] using q)]
            exact look_x a2 b2
theorem repl_x {kd : D} {v : V} {d : D} (hv : Rep pa B H v d) : ∀ {xs : List XE} {ks vs : List D}, xs.map (·.1) = ks.map nkD → RepL pa B H (xs.map (·.2.2)) vs → RepL pa B H ((xs.map fun x => if x.1 = nkD kd then (x.1, x.2.1, v) else x).map (·.2.2)) (replD ks vs kd d)
  | [], ks, vs, h1, h2 => by
    cases ks with
    | nil => exact .nil
    | cons _ _ => simp at h1
  | x :: xs, ks, vs, h1, h2 => by
    cases ks with
    | nil => simp at h1
    | cons k ks =>
      cases vs with
      | nil => cases h2
      | cons v1 vs =>
        rw [List.map_cons, List.map_cons] at h1
        injection h1 with a1 a2
        cases h2 with
        | cons b1 b2 =>
          rw [List.map_cons, List.map_cons, replD, ← a1]
          by_cases q : x.1 = nkD kd
          · rw [if_pos q, if_pos q]
            exact .cons hv (repl_x hv a2 b2)
          · rw [if_neg q, if_neg q]
            exact .cons b1 (repl_x hv a2 b2)
theorem look_none : ∀ {ks vs : List D} {x : D}, ks.length = vs.length → lookD ks vs x = none → ∀ k ∈ ks, nkD k ≠ nkD x
  | [], _, _, _, _, k, hk => by cases hk
  | k1 :: ks, [], _, l, _, _, _ => by simp at l
  | k1 :: ks, v1 :: vs, x, l, h, k, hk => by
    rw [lookD] at h
    split at h
    · cases h
    · rename_i q
      rcases List.mem_cons.mp hk with rfl | hk
      · exact q
      · exact look_none (by simpa using l) h k hk
theorem raw_dct {a : Addr} {od : Obj} {u : HO} {ks : List D} {kxs vxs : List V} (h1 : H a = some (.frz od u)) (h2 : DctU a true ks kxs vxs u) (h3 : RepL pa B H kxs ks) : ∃ xs : List XE, RawOk H a xs ∧ u = rawX a xs ∧ xs.map (·.1) = ks.map nkD ∧ xs.map (fun x => V.ref x.2.1) = kxs ∧ xs.map (·.2.2) = vxs := by
  obtain ⟨e, nd, hk, l⟩ := (show u = RawE a (ks.map fun k => hash0 (nkD k)) kxs vxs ∧ (ks.map nkD).Nodup ∧ (∀ k ∈ ks, kOk k = true) ∧ vxs.length = ks.length from h2)
  obtain ⟨xs, e1, e2, e3, e4⟩ := raw_xs (a := a) h3 hk l
  have eu : u = rawX a xs := by
    rw [e]
    unfold rawX
    rw [e2, e3]
    congr 1
    have : (xs.map (·.1)).map hash0 = (ks.map nkD).map hash0 := by rw [e1]
    rw [List.map_map, List.map_map] at this
    exact this.symm
  exact ⟨xs, ⟨.inr ⟨od, by rw [h1, eu]⟩, by rw [e1]; exact nd, e4⟩, eu, e1, e2, e3⟩
/-- reading -/
theorem aget_of {v y : V} {t : Bool} {ks vs : List D} {kd : D} (hr : RepB pa B H v (.dct t ks vs)) (hy : RepB pa B H y kd) (hk : keyOk t kd = true) : ∃ a o, v = .ref a ∧ AGet H a y o ∧ OptR pa B H o (lookD ks vs kd) := by
  obtain ⟨a, _, kxs, vxs, rfl, h1, ⟨od, o, rfl, h2⟩, h3, h4⟩ := hr.dct
  cases t with
  | false =>
    obtain ⟨kvs, rfl, rfl, rfl⟩ := (show ∃ kvs : List (Key × V), o = .dK kvs ∧ kxs = kvs.map (fun p => kV p.1) ∧ vxs = kvs.map (·.2) from h2)
    obtain ⟨k, rfl⟩ := isK_key (show isK kd = true from hk)
    have hy := key_rep (hy.rep (by cases k <;> rfl))
    subst hy
    exact ⟨a, _, rfl, .inl (.inl ⟨kvs, k, .inr ⟨od, h1⟩, rfl, rfl⟩), look_k h3 h4⟩
  | true =>
    obtain ⟨xs, ro, eu, e1, e2, e3⟩ := raw_dct h1 h2 h3
    have hk : kOk kd = true := hk
    obtain ⟨b, rfl, q⟩ := rep_key hk (hy.rep (by cases kd <;> first | rfl | cases hk))
    subst e3
    exact ⟨a, _, rfl, .inr ⟨xs, nkD kd, b, ro, rfl, q, rfl⟩, look_x e1 h4⟩
theorem dct_lenU {a : Addr} {o : HO} {t : Bool} {ks vs : List D} {kxs vxs : List V} (h2 : DctU a t ks kxs vxs o) (h3 : RepL pa B H kxs ks) (h4 : RepL pa B H vxs vs) : ks.length = vs.length := by
  cases t with
  | false =>
    obtain ⟨kvs, rfl, rfl, rfl⟩ := (show ∃ kvs : List (Key × V), o = .dK kvs ∧ kxs = kvs.map (fun p => kV p.1) ∧ vxs = kvs.map (·.2) from h2)
    rw [← h3.length, ← h4.length, List.length_map, List.length_map]
  | true =>
    obtain ⟨e, nd, hk, l⟩ := (show o = RawE a (ks.map fun k => hash0 (nkD k)) kxs vxs ∧ (ks.map nkD).Nodup ∧ (∀ k ∈ ks, kOk k = true) ∧ vxs.length = ks.length from h2)
    rw [← l, h4.length]
/-- storing -/
theorem aput_of {a : Addr} {od : Obj} {o : HO} {t : Bool} {ks vs : List D} {kxs vxs : List V} {y v : V} {kd d : D} (h1 : H a = some (.frz od o)) (h2 : DctU a t ks kxs vxs o) (h3 : RepL pa B H kxs ks) (h4 : RepL pa B H vxs vs) (hy : Rep pa B H y kd) (hk : keyOk t kd = true) (hv : Rep pa B H v d) (hl : ks.length < LIM) :
    ∃ o', APut H a y v o' ∧ ∀ (od' : Obj) (B' : AP) (H' : Hp), Keep B B' H H' → H' a = some (.frz od' o') → (SV.od t (putD ks vs kd d).1 (putD ks vs kd d).2).rp pa B' H' a := by
  have hlv := dct_lenU h2 h3 h4
  cases t with
  | false =>
    obtain ⟨kvs, rfl, rfl, rfl⟩ := (show ∃ kvs : List (Key × V), o = .dK kvs ∧ kxs = kvs.map (fun p => kV p.1) ∧ vxs = kvs.map (·.2) from h2)
    obtain ⟨k, rfl⟩ := isK_key (show isK kd = true from hk)
    have hy := key_rep hy
    subst hy
    have hlen : kvs.length = ks.length := by rw [← h3.length, List.length_map]
    refine ⟨.dK (putK kvs k v), .inl ⟨od, kvs, k, h1, rfl, by rw [lim_eq, hlen]; exact hl, rfl⟩, fun od' B' H' kp e => ?_⟩
    have hs := (look_k (k := k) h3 h4).isSome
    have ha := valV_any k kvs
    unfold putD
    rw [← hs]
    unfold putK at e
    cases q : (valV kvs k).isSome with
    | true =>
      rw [ha, q] at e
      obtain ⟨c1, c2⟩ := repl_k (k := k) hv h3 h4
      exact ⟨_, _, _, e, ⟨_, _, rfl, _, rfl, rfl, rfl⟩, c1.kp kp, c2.kp kp⟩
    | false =>
      rw [ha, q] at e
      refine ⟨_, _, _, e, ⟨_, _, rfl, _, rfl, rfl, rfl⟩, ?_, ?_⟩
      · rw [if_neg (by decide), if_neg (by decide), List.map_append]
        exact (h3.append (.cons (by cases k <;> first | exact .int _ | exact .str _) .nil)).kp kp
      · rw [if_neg (by decide), if_neg (by decide), List.map_append]
        exact (h4.append (.cons hv .nil)).kp kp
  | true =>
    obtain ⟨e, nd, hka, l⟩ := (show o = RawE a (ks.map fun k => hash0 (nkD k)) kxs vxs ∧ (ks.map nkD).Nodup ∧ (∀ k ∈ ks, kOk k = true) ∧ vxs.length = ks.length from h2)
    obtain ⟨xs, ro, eu, e1, e2, e3⟩ := raw_dct h1 h2 h3
    have hk : kOk kd = true := hk
    obtain ⟨b, rfl, q⟩ := rep_key hk hy
    subst e2 e3
    have hlen : xs.length = ks.length := by
      have := congrArg List.length e1
      simpa using this
    refine ⟨rawX a (putX xs (nkD kd) b v), .inr ⟨od, xs, nkD kd, b, by rw [h1, eu], ro.nd, ro.ks, rfl, q, by rw [lim_eq, hlen]; exact hl, rfl⟩, fun od' B' H' kp e' => ?_⟩
    have hs := (look_x (kd := kd) e1 h4).isSome
    have hk0 : (xs.map fun x => hash0 x.1) = ks.map fun k => hash0 (nkD k) := by
      have q := congrArg (List.map hash0) e1
      rw [List.map_map, List.map_map] at q
      exact q
    unfold putD
    rw [← hs]
    unfold putX at e'
    cases q2 : (lookX xs (nkD kd)).isSome with
    | true =>
      rw [q2, if_pos rfl] at e'
      rw [if_pos rfl]
      refine ⟨_, xs.map (fun x => V.ref x.2.1), (xs.map fun x => if x.1 = nkD kd then (x.1, x.2.1, v) else x).map (·.2.2), e', ⟨_, _, rfl, ?_, nd, hka, ?_⟩, ?_, (repl_x (kd := kd) hv e1 h4).kp kp⟩
      · have hv : ((xs.map fun x => if x.1 = nkD kd then (x.1, x.2.1, v) else x).map fun x => V.ref x.2.1) = xs.map fun x => V.ref x.2.1 := by
          rw [List.map_map]
          refine List.map_congr_left fun x hx => ?_
          show V.ref (if x.1 = nkD kd then (x.1, x.2.1, v) else x).2.1 = V.ref x.2.1
          split <;> rfl
        unfold rawX
        rw [hv]
        congr 1
        have h2 : ((xs.map fun x => if x.1 = nkD kd then (x.1, x.2.1, v) else x).map fun x => hash0 x.1) = xs.map fun x => hash0 x.1 := by
          rw [List.map_map]
          refine List.map_congr_left fun x hx => ?_
          show hash0 (if x.1 = nkD kd then (x.1, x.2.1, v) else x).1 = hash0 x.1
          split <;> rfl
        rw [h2]
        exact hk0
      · simp [hlen]
      · exact h3.kp kp
    | false =>
      rw [q2, if_neg (by decide)] at e'
      rw [if_neg (by decide)]
      have hn : lookD ks vs kd = none := by
        cases z : lookD ks vs kd with
        | none => rfl
        | some d' =>
          rw [z] at hs
          rw [hs] at q2
          cases q2
      have nm := look_none hlv hn
      refine ⟨_, xs.map (fun x => V.ref x.2.1) ++ [V.ref b], xs.map (·.2.2) ++ [v], e', ⟨_, _, rfl, ?_, ?_, fun k hk' => ?_, ?_⟩, ?_, ?_⟩
      · unfold rawX
        rw [List.map_append, List.map_append, List.map_append, List.map_append, hk0]
        rfl
      · rw [List.map_append]
        refine List.nodup_append.mpr ⟨nd, by simp, fun a ha b hb => ?_⟩
        obtain ⟨k, hk1, rfl⟩ := List.mem_map.mp ha
        simp at hb
        rw [hb]
        exact nm k hk1
      · rcases List.mem_append.mp hk' with z | z
        · exact hka k z
        · cases List.mem_singleton.mp z
          exact hk
      · simp [hlen]
      · exact (h3.append (.cons hy .nil)).kp kp
      · exact (h4.append (.cons hv .nil)).kp kp
end
/-! ### rules -/
/-- what is new is locked -/
def tNewL (te : TE) : TE := fun σ H Q => te σ H fun v H1 => ∃ d u, v = .ref d ∧ H1 d = some u ∧ Mut (some u) ∧ ∀ od, Q (.ref d) (upd H1 d (.frz od u))
theorem pe_newL {X : Cx} {e : Expr} {te : TE} (h : PE X e te) : PE X e (tNewL te) := ⟨fun pins s σ H Q I q => thn (h.run pins s σ H _ I q) fun v s1 ⟨x, H1, I1, r1, d, u, ex, hd, mu, q1⟩ => by
  subst ex
  obtain ⟨od, I2⟩ := I1.lock hd mu
  exact ⟨.ref d, _, I2, r1, q1 od⟩⟩
def tAGet (td ty : TE) : TE := fun σ H Q => td σ H fun x H1 => ty σ H1 fun y H2 => ∃ a v, x = .ref a ∧ AGet H2 a y (some v) ∧ Q v H2
def tAIn (ty td : TE) : TE := fun σ H Q => ty σ H fun y H1 => td σ H1 fun x H2 => ∃ a o, x = .ref a ∧ AGet H2 a y o ∧ Q (.bl o.isSome) H2
def tANotIn (ty td : TE) : TE := fun σ H Q => ty σ H fun y H1 => td σ H1 fun x H2 => ∃ a o, x = .ref a ∧ AGet H2 a y o ∧ Q (.bl (!o.isSome)) H2
def sAPut (H0 : Hp) (td ty tv : TE) : TS := fun D σ H => tv σ H fun v H1 => td σ H1 fun x H2 => ty σ H2 fun y H3 => ∃ a u', x = .ref a ∧ H0 a = none ∧ APut H3 a y v u' ∧ ∀ od, D.nx σ (upd H3 a (.frz od u'))
section
variable {X : Cx} {o i e value : Expr} {pos pos' tpos : Pos} {td ty tv : TE}
theorem pe_aget (hu : X.A.units + 64 < cLine) (ho : PE X o td) (hi : PE X i ty) (hs : NoSl i) : PE X (.Subscript o i pos) (tAGet td ty) := by
  refine ⟨fun pins s σ H Q I h => ?_⟩
  refine subD_of PySem.F.slot_dict_getitem.lookup hs (thn (ho.run pins s σ H _ I h) fun u s1 ⟨x, H1, I1, rx, q1⟩ => thn (hi.run pins s1 σ H1 _ I1 q1) fun iv s2 ⟨y, H2, I2, ry, a, v, ex, g, q2⟩ => ?_)
  subst ex
  obtain rfl : u = Value.ref a := rx
  exact ⟨(aget_dict I2 g).1, a_getItem hu I2 g ry fun w' s3 I3 rw' => ⟨v, H2, I3, rw', q2⟩⟩
theorem pc_ain (hu : X.A.units + 64 < cLine) (hi : PE X i ty) (ho : PE X o td) : PC X .In i o (tAIn ty td) := by
  refine ⟨fun pins s σ H Q I h => ?_⟩
  refine thn (hi.run pins s σ H _ I h) fun iv s1 ⟨y, H1, I1, ry, q1⟩ => thn (ho.run pins s1 σ H1 _ I1 q1) fun u s2 ⟨x, H2, I2, rx, a, ov, ex, g, q2⟩ => ?_
  subst ex
  obtain rfl : u = Value.ref a := rx
  exact a_in hu I2 g ry fun s3 I3 => ⟨.bl ov.isSome, H2, I3, rfl, q2⟩
theorem pc_anotin (hu : X.A.units + 64 < cLine) (hi : PE X i ty) (ho : PE X o td) : PC X .NotIn i o (tANotIn ty td) := by
  refine ⟨fun pins s σ H Q I h => ?_⟩
  refine thn (hi.run pins s σ H _ I h) fun iv s1 ⟨y, H1, I1, ry, q1⟩ => thn (ho.run pins s1 σ H1 _ I1 q1) fun u s2 ⟨x, H2, I2, rx, a, ov, ex, g, q2⟩ => ?_
  subst ex
  obtain rfl : u = Value.ref a := rx
  exact a_notIn hu I2 g ry fun s3 I3 => ⟨.bl (!ov.isSome), H2, I3, rfl, q2⟩
theorem ps_aput (hu : X.A.units + 64 < cLine) (ho : PE X o td) (hi : PE X i ty) (hv : PE X value tv) (hs : swapsWith value (some (.Subscript o i pos')) pos.line X.env = pure false) :
    PS X (.Assign [.Subscript o i pos'] value pos) (sAPut X.H_0 td ty tv) := by
  refine ⟨fun pins s σ H D I h => ?_⟩
  refine wpAny_Assign_Subscript (thn (hv.run pins s σ H _ I h) fun r s1 ⟨v, H1, I1, rv, q1⟩ => thn (ho.run pins s1 σ H1 _ I1 q1) fun u s2 ⟨x, H2, I2, rx, q2⟩ => thn (hi.run pins s2 σ H2 _ I2 q2) fun iv s3 ⟨y, H3, I3, ry, a, u', ex, h0, g, q3⟩ => ?_) hs
  subst ex
  obtain rfl : u = Value.ref a := rx
  exact a_setItem hu I3 (fun o' u' z => by rw [h0] at z; cases z) g ry rv fun od s4 I4 => ⟨σ, _, I4, q3 od⟩
/-- {}, of tuples -/
def tNewR : TE := fun _ H Q => ∀ p, H p = none → Q (.ref p) (upd H p (rawX p []))
theorem raw_empty {P : Program} {w : World} {H : Hp} (h : Heap) (hb : sysModules < h.objs.size) : ObjOk P w H (h.push { cls := .type "dict", data := .dict #[] }) h.objs.size (rawX h.objs.size []) :=
  raw_new (Nat.zero_le _) (beq_eq_false_iff_ne.mpr (Ne.symm (Nat.ne_of_lt hb))) .nil (fun _ z => nomatch z) (Heap.DictOfH.new h)
theorem pe_newR : PE X (.Dict [] [] pos) tNewR := ⟨fun pins s σ H Q I h =>
  wpAny_Dict_empty ⟨.ref s.heap.objs.size, _, I.laid (a := s.heap.objs.size) (o := rawX s.heap.objs.size []) (t' := s.toks) (fun _ _ q => Heap.get?_push_of_some _ q) (Nat.le_refl _) (raw_empty s.heap I.big), rfl, h _ (I.hok.fresh (Nat.le_refl _))⟩⟩
/-- {k: v}, of tuples -/
def tDispR (tk tv : TE) : TE := fun σ H Q => ∀ p, H p = none → tPairs [(tk, tv)] σ (upd H p (rawX p [])) fun ps H2 => ∃ nk kb y, ps = [(V.ref kb, y)] ∧ H2 p = some (rawX p []) ∧ KeyT H2 nk kb ∧ Q (.ref p) (upd H2 p (rawX p [(nk, kb, y)]))
theorem pe_dispR {k v : Expr} {tk : TE} (hu : X.A.units + 64 < cLine) (hk : PE X k tk) (hv : PE X v tv) : PE X (.Dict [some k] [v] pos) (tDispR tk tv) := by
  refine ⟨fun pins s σ H Q I q => ?_⟩
  have hn := I.hok.fresh (Nat.le_refl s.heap.objs.size)
  have I1 := I.laid (a := s.heap.objs.size) (o := rawX s.heap.objs.size []) (h' := s.heap.push { cls := .type "dict", data := .dict #[] }) (t' := s.toks) (fun _ _ q => Heap.get?_push_of_some _ q) (Nat.le_refl _) (raw_empty s.heap I.big)
  have h := pps_cons (pos := pos) hk hv (pps_nil (X := X) (pos := pos))
  have hr : (nestedKind X.prog X.w).room X.A := by
    show X.A.units + 8 < cLine
    omega
  have hshape : (evalEachOpt [some k] X.env).zip ((evalEach [v] X.env).map fun v => do let x ← v; standAt pos; pure x) = (pairTrees [some k] [v] X.env pos).map (fun p => (some p.1, p.2)) := rfl
  have hlen : (pairTrees [some k] [v] X.env pos).length ≤ 15 := by show (1 : Nat) ≤ 15; omega
  rw [arm_eval_Dict, hshape, dictDisplay_pairs (pairTrees [some k] [v] X.env pos) (by intro z; cases z) (by show (1 : Nat) < 17; omega)]
  refine wpAny_bind (wpAny_standAt (wpAny_bind (wpAny_subDictH (knd := nestedKind X.prog X.w) (Q := fun d s' => wpAny (model X.prog X.w) X.A (pure (Value.ref d)) (EP X pins σ Q) X.xe s') hr hlen ?_)))
  refine thn (h.run pins _ σ _ _ I1 (q _ hn)) fun ws s2 ⟨ps, H2, I2, rel, nk, kb, y, ep, hp, hkt, q2⟩ => ?_
  subst ep
  cases rel with
  | @cons pa pb as bs r1 r2 =>
    cases r2
    obtain ⟨ra, rb⟩ := r1
    obtain ⟨u1, u2⟩ := pb
    obtain rfl : u1 = Value.ref kb := ra
    have r0 : RawOk H2 s.heap.objs.size [] := ⟨.inl hp, List.nodup_nil, fun _ z => nomatch z⟩
    obtain ⟨ys, pz, dd, hd, hz⟩ := raw_ok I2.hok r0
    cases pz
    refine ⟨[(nk, kb, u2)], ⟨rfl, rfl, key_is I2.hok hkt, trivial⟩, dd, fun h' tk dd' hs => wpAny_pure ⟨.ref s.heap.objs.size, _, ?_, rfl, q2⟩⟩
    have he : ∃ q, h'.get? s.heap.objs.size = some q := let ⟨q, _, _, hq, _⟩ := dd'; ⟨q, hq⟩
    refine d_write I2 (by rw [hp]; exact trivial) hs he (raw_new (by show (1 : Nat) ≤ sizeLine; rw [sizeLine_eq]; omega) hd (.cons ⟨rfl, rfl, rb⟩ .nil) (fun x hx => ?_) dd')
    cases List.mem_singleton.mp hx
    exact hkt.2.1 _
end
end Ev

set_option Elab.async false
set_option linter.all false
set_option maxRecDepth 100000
set_option maxHeartbeats 4000000
/-! EvX: the operations, with dicts and repeated tuples. -/
namespace Ev
open PySem PySem.Spec PyProof.Rows L2
def dgetD : D → D → Option D
  | .dct t ks vs, k => if keyOk t k then lookD ks vs k else none
  | _, _ => none
def dinD (k : D) : D → Option Bool
  | .dct t ks vs => if keyOk t k then some (lookD ks vs k).isSome else none
  | _ => none
def isDct : D → Bool
  | .dct _ _ _ => true
  | _ => false
def cmpB (o : COp) (d e : D) : Option Bool := match o with
  | .in_ => if isDct e then dinD d e else cmpB0 .in_ d e
  | .notin => if isDct e then (dinD d e).map (!·) else cmpB0 .notin d e
  | o => cmpB0 o d e
def cmpD (o : COp) (d e : D) : Option D := (cmpB o d e).map D.bl
def idxD (d e : D) : Option D := if isDct d then dgetD d e else idxD0 d e
def repF (k : Int) (xs : List D) : List D := (List.replicate k.toNat xs).flatten
noncomputable def mulX : D → D → Option D
  | .tup xs, .int k => if xs.isEmpty = false ∧ 0 ≤ k ∧ k ≤ 1000 ∧ xs.length ≤ 1000 then some (.tup (repF k xs)) else none
  | .lst xs, .int k => if 0 ≤ k ∧ k ≤ 1000 ∧ xs.length ≤ 1000 then some (.lst (repF k xs)) else none
  | d, e => mulD d e
noncomputable def binD : BOp → D → D → Option D
  | .mul => mulX
  | o => binD0 o
def lenF (ds : List D) : Option D := match ds with
  | [.dct _ ks _] => some (.int ks.length)
  | ds => lenF0 ds
def sortF (ds : List D) : Option D := match ds with
  | [.dct false ks _] => (intsOf ks).bind fun ns => if ns.length < 60 then some (.lst ((ns.mergeSort fun a b => decide (a ≤ b)).map .int)) else none
  | ds => sortF0 ds
section
variable {X : Cx} {pa : Option Addr} {B : AP} {H : Hp}
theorem cmpD_0 {o : COp} {d e : D} (h : isDct e = false ∨ (o ≠ .in_ ∧ o ≠ .notin)) : cmpD o d e = cmpD0 o d e := by
  unfold cmpD cmpD0 cmpB
  rcases h with h | ⟨h1, h2⟩
  · cases o <;> simp [h]
  · cases o <;> first | rfl | exact absurd rfl h1 | exact absurd rfl h2
theorem opD_cmp (hu : X.A.units + 64 < cLine) (o : COp) : OpR X (compareOp o.op) (r2P (cmpD o)) := by
  intro pins s σ H x y v u Q I rx ry h
  obtain ⟨pa, B, d, e, r, hd, h1, h2, g, q⟩ := h
  by_cases hz : isDct e = false ∨ (o ≠ .in_ ∧ o ≠ .notin)
  · rw [cmpD_0 hz] at g
    exact opD_cmp0 hu o pins s σ H x y v u Q I rx ry ⟨pa, B, d, e, r, hd, h1, h2, g, q⟩
  · have hz1 : isDct e = true := by
      cases hq : isDct e with
      | true => rfl
      | false => exact absurd (.inl hq) hz
    cases e with
    | dct t ks vs =>
      have ho : o = .in_ ∨ o = .notin := by
        cases o <;> first | exact .inl rfl | exact .inr rfl | exact absurd (.inr ⟨(fun z => nomatch z), fun z => nomatch z⟩) hz
      by_cases hk : keyOk t d = true
      · obtain ⟨a, w, rfl, ga, w'⟩ := aget_of h2 h1 hk
        obtain rfl : u = Value.ref a := ry
        rcases ho with rfl | rfl
        · have g : (if keyOk t d = true then some (lookD ks vs d).isSome else none).map D.bl = some r := g
          rw [if_pos hk] at g
          cases g
          refine a_in hu I ga rx fun s' I' => ⟨.bl w.isSome, H, I', rfl, ?_⟩
          rw [w'.isSome]
          exact q _ _ (Ext.refl _) (.bl _)
        · have g : ((if keyOk t d = true then some (lookD ks vs d).isSome else none).map (!·)).map D.bl = some r := g
          rw [if_pos hk] at g
          cases g
          refine a_notIn hu I ga rx fun s' I' => ⟨.bl (!w.isSome), H, I', rfl, ?_⟩
          rw [w'.isSome]
          exact q _ _ (Ext.refl _) (.bl _)
      · have hn : dinD d (.dct t ks vs) = none := if_neg hk
        rcases ho with rfl | rfl
        · have g : (dinD d (.dct t ks vs)).map D.bl = some r := g
          rw [hn] at g
          cases g
        · have g : ((dinD d (.dct t ks vs)).map (!·)).map D.bl = some r := g
          rw [hn] at g
          cases g
    | _ => cases hz1
theorem ix_dict {value slice : Expr} {pins : List (Addr × Obj)} {s : Shared} {σ : L2.St} {a : Addr} {y w : V} {u : Value} {Q : VK} (hu : X.A.units + 64 < cLine) (I : Inv X pins σ H s) (ry : RelV y u) (g : AGet H a y (some w)) (q : Q w H)
    (hs : subscripted slice false (.ref a) u = operate [.ref a, u] (getItem (.ref a) u)) : wpAny (model X.prog X.w) X.A (subscriptTail value slice (.ref a) u) (EP X pins σ Q) X.xe s := by
  have hT := (aget_dict I g).1
  unfold subscriptTail
  refine wpAny_bind ?_
  rw [getitemInPython_of_ne hT.not_modules]
  refine wpAny_bind (wpAny_specialOf hT PySem.F.slot_dict_getitem.lookup ?_)
  have fin : wpAny (model X.prog X.w) X.A (subscripted slice false (.ref a) u) (fun r s₃ => wpAny (model X.prog X.w) X.A (letTemporaryGo value (.ref a) r >>= fun _ => pure r) (EP X pins σ Q) X.xe s₃) X.xe s := by
    rw [hs]
    exact wpAny_operating (a_getItem hu I g ry fun r s₃ I3 rw' => wpAny_bind (wpAny_letTemporaryGo (wpAny_pure ⟨w, H, I3, rw', q⟩)))
  first
    | exact wpAny_pure (wpAny_bind fin)
    | exact wpAny_bind (wpAny_pure (wpAny_bind fin))
    | exact wpAny_bind fin
theorem ixD (hu : X.A.units + 64 < cLine) : IxR X (r2P idxD) := by
  intro value slice pins s σ H x y v u Q I rx ry h hsub
  obtain ⟨pa, B, d, e, r, hd, h1, h2, g, q⟩ := h
  by_cases hz : isDct d = true
  · cases d with
    | dct t ks vs =>
      have g : (if keyOk t e = true then lookD ks vs e else none) = some r := g
      split at g
      case isFalse => cases g
      rename_i hk
      obtain ⟨a, w, rfl, ga, w'⟩ := aget_of h1 h2 hk
      rw [g] at w'
      obtain ⟨z, rfl, rz⟩ := w'
      obtain rfl : v = Value.ref a := rx
      exact ix_dict hu I ry ga (q z _ (Ext.refl _) rz) hsub
    | _ => cases hz
  · have g : (if isDct d = true then dgetD d e else idxD0 d e) = some r := g
    rw [if_neg hz] at g
    exact ixD0 value slice pins s σ H x y v u Q I rx ry ⟨pa, B, d, e, r, hd, h1, h2, g, q⟩ hsub
theorem RepL.rep {xs : List V} {ds : List D} (h : RepL pa B H xs ds) : ∀ n : Nat, RepL pa B H (List.replicate n xs).flatten (List.replicate n ds).flatten
  | 0 => .nil
  | n + 1 => by
    rw [List.replicate_succ, List.replicate_succ, List.flatten_cons, List.flatten_cons]
    exact h.append (RepL.rep h n)
/-- a tuple times 0, 1 -/
theorem op_rep01 {pins : List (Addr × Obj)} {s : Shared} {σ : L2.St} {l : Addr} {k : Int} {xs : List V} {u : Value} {Q : VK} (I : Inv X pins σ H s) (hT : SqT X.K H l xs) (hne : xs ≠ []) (ru : RelV (.int k) u) (q : (k = 0 ∧ ∀ p, H p = none → Q (.ref p) (upd H p (.tup []))) ∨ (k = 1 ∧ Q (.ref l) H)) :
    wpAny (model X.prog X.w) X.A (binaryOp .Mult (.ref l) u) (EP X pins σ Q) X.xe s := by
  obtain ⟨t, rfl⟩ := ru
  obtain ⟨its, r, ⟨⟨cls, dd, data, sl⟩, ho, hc, n, hd⟩, hs⟩ := I.tuple hT
  simp only at hc hd
  subst hc hd
  have hle : its.length = xs.length := r.length.symm
  have hn : its ≠ [] := fun e => hne (by
    rw [e] at hle
    exact List.eq_nil_of_length_eq_zero hle.symm)
  have hi : its.toArray.isEmpty = false := by
    cases its with
    | nil => exact absurd rfl hn
    | cons a b => rfl
  have c0 : (decide (k < -(2 ^ 63)) || decide (k ≥ 2 ^ 63)) = false := by
    rw [decide_eq_false (by omega), decide_eq_false (by omega)] <;> rfl
  refine wpAny_binaryOp_repeat_ref (T := "tuple") (U := "int") (by decide) ⟨_, ho, rfl⟩ (fun s' => typeIs_int s' k t) noFill_tuple_mul F.fills_int_mul F.slot_int_rmul repeat_tuple F.slot_int_index.lookup
    (call_meets F.slot_int_rmul (typeIs_int s k t) F.entry_int_rmul (F.args_int_rmul_2 _ _) (int_rmul_tuple k t l its.toArray n dd sl)
      ⟨ho, rfl, ⟨_, ho, rfl⟩, ?_⟩)
  rcases q with ⟨rfl, q⟩ | ⟨rfl, q⟩
  · refine call_meets F.slot_tuple_mul ⟨_, ho, rfl⟩ F.entry_tuple_mul (F.args_tuple_mul_2 _ _) (tuple_mul0 l its.toArray n dd sl 0 t c0 (by rw [hi] <;> rfl) rfl) ⟨ho, ?_⟩
    refine ⟨.ref s.heap.objs.size, _, I.laid (t' := s.toks) (o := .tup []) (fun b ob q => Heap.get?_push_of_some _ q) (Nat.le_refl _) ?_, rfl, q _ (I.hok.fresh (Nat.le_refl _))⟩
    exact ⟨Nat.zero_le _, [], .nil, IsTup.new _ _⟩
  · refine call_meets F.slot_tuple_mul ⟨_, ho, rfl⟩ F.entry_tuple_mul (F.args_tuple_mul_2 _ _) (tuple_mul1 l its.toArray n dd sl 1 t c0 (by rw [hi] <;> rfl)) ⟨ho, ?_⟩
    exact ⟨.ref l, H, I, rfl, q⟩
theorem opD_mulX : OpR X (binaryOp .Mult) (r2P mulX) := by
  intro pins s σ H x y v u Q I rx ry h
  obtain ⟨pa, B, d, e, r, hd, h1, h2, g, q⟩ := h
  have old : mulX d e = mulD d e → wpAny (model X.prog X.w) X.A (binaryOp .Mult v u) (EP X pins σ Q) X.xe s := fun z => by
    rw [z] at g
    exact opD_mul pins s σ H x y v u Q I rx ry ⟨pa, B, d, e, r, hd, h1, h2, g, q⟩
  cases d with
  | tup xs =>
    cases e with
    | int k =>
      have g : (if xs.isEmpty = false ∧ 0 ≤ k ∧ k ≤ 1000 ∧ xs.length ≤ 1000 then some (D.tup (repF k xs)) else none) = some r := g
      split at g
      case isFalse => cases g
      rename_i hk
      obtain ⟨k1, k2, k3, k4⟩ := hk
      cases g
      have e2 := h2.int
      subst e2
      obtain ⟨a, ys, rfl, ha, na, hr⟩ := h1.tup
      obtain rfl : v = Value.ref a := rx
      have ne : ys ≠ [] := fun z => by
        subst z
        cases hr
        cases k1
      by_cases hk2 : 2 ≤ k
      · exact op_repT pins s σ H (.ref a) (.int k) (.ref a) u Q I rfl ry ⟨a, k, ys, rfl, rfl, SqT.of ha, ne, hk2, k3, by rw [hr.length]; exact k4, fun p hp => q _ _ (Ext.new hp) (Rep.newT hd hp (hr.rep _))⟩
      · refine op_rep01 I (SqT.of ha) ne ry ?_
        by_cases k0 : k = 0
        · subst k0
          exact .inl ⟨rfl, fun p hp => q _ _ (Ext.new hp) (Rep.newT hd hp .nil)⟩
        · have k1' : k = 1 := by omega
          subst k1'
          refine .inr ⟨rfl, q _ _ (Ext.refl _) ?_⟩
          have e3 : repF 1 xs = xs := by
            show (List.replicate 1 xs).flatten = xs
            simp
          rw [e3]
          exact .tup ha na hr
    | _ => exact old rfl
  | lst xs =>
    cases e with
    | int k =>
      have g : (if 0 ≤ k ∧ k ≤ 1000 ∧ xs.length ≤ 1000 then some (D.lst (repF k xs)) else none) = some r := g
      split at g
      case isFalse => cases g
      rename_i hk
      obtain ⟨k2, k3, k4⟩ := hk
      cases g
      have e2 := h2.int
      subst e2
      obtain ⟨a, ys, rfl, ha, hr⟩ := h1.lst
      refine op_rep pins s σ H _ _ v u Q I rx ry ⟨a, k, ys, rfl, rfl, ha, by omega, by omega, ?_, fun p hp => q _ _ (Ext.new hp) (Rep.newL hd hp (hr.rep _))⟩
      rw [hr.length, sizeLine_eq]
      have a1 : xs.length * k.toNat ≤ 1000 * 1000 := Nat.mul_le_mul k4 (by omega)
      omega
    | _ => exact old rfl
  | int i => exact old (by cases e <;> rfl)
  | _ => exact old (by cases e <;> rfl)
theorem opD_bin (o : BOp) : OpR X (binaryOp o.op) (r2P (binD o)) := by
  cases o with
  | mul => exact opD_mulX
  | add => exact opD_bin0 .add
  | sub => exact opD_bin0 .sub
  | fdiv => exact opD_bin0 .fdiv
  | mod => exact opD_bin0 .mod
  | pow => exact opD_bin0 .pow
theorem call_lenD : CallR X (.builtin "len") (rP lenF) := by
  intro pins s σ H xs us Q I r h
  obtain ⟨pa, B, ds, e, hd, hr, g, q⟩ := h
  have old : lenF ds = lenF0 ds → wpAny (model X.prog X.w) X.A (call (.builtin "len") us) (EP X pins σ Q) X.xe s := fun z => by
    rw [z] at g
    exact call_lenD0 pins s σ H xs us Q I r ⟨pa, B, ds, e, hd, hr, g, q⟩
  cases ds with
  | nil => exact old rfl
  | cons d ds =>
    cases ds with
    | cons d2 ds => exact old (by cases d <;> rfl)
    | nil =>
      cases d with
      | dct t ks vs =>
        cases g
        obtain ⟨v, rfl, hv⟩ := hr.one
        obtain ⟨a, _, kxs, vxs, rfl, h1, ⟨od, o, rfl, h2⟩, h3, h4⟩ := hv.dct
        obtain ⟨u, rfl, ru⟩ := vals1 r
        obtain rfl : u = Value.ref a := ru
        cases t with
        | false =>
          obtain ⟨kvs, rfl, rfl, rfl⟩ := (show ∃ kvs : List (Key × V), o = .dK kvs ∧ kxs = kvs.map (fun p => kV p.1) ∧ vxs = kvs.map (·.2) from h2)
          have hl : kvs.length = ks.length := by rw [← h3.length, List.length_map]
          exact d_len I (.inr ⟨od, h1⟩) fun t s' I' => ⟨.int kvs.length, H, I', ⟨t, rfl⟩, by rw [hl]; exact q _ _ (Ext.refl _) (.int _)⟩
        | true =>
          obtain ⟨xs, ro, eu, e1, e2, e3⟩ := raw_dct h1 h2 h3
          obtain ⟨ys, p, dd, hd', hz⟩ := raw_ok I.hok ro
          have hl : xs.length = ks.length := by
            have := congrArg List.length e1
            simpa using this
          have hl2 := xv_len p
          rw [sizeLine_eq] at hz
          refine call_len_dictH hd' dd (by omega) ⟨.int ks.length, H, I.tok _, ⟨_, by rw [← hl, hl2]⟩, q _ _ (Ext.refl _) (.int _)⟩
      | _ => exact old rfl
theorem keys_int : ∀ {kvs : List (Key × V)} {ns : List Int}, kvs.map (fun p => kV p.1) = ns.map V.int → kvs.map (·.1) = ns.map Sum.inl
  | [], [], _ => rfl
  | [], _ :: _, h => by cases h
  | _ :: _, [], h => by cases h
  | p :: kvs, n :: ns, h => by
    rw [List.map_cons, List.map_cons] at h
    injection h with a1 a2
    rw [List.map_cons, List.map_cons, keys_int a2]
    congr 1
    cases h : p.1 with
    | inl m =>
      rw [h] at a1
      cases a1
      rfl
    | inr z =>
      rw [h] at a1
      cases a1
theorem ints_rep : ∀ ys : List Int, RepL pa B H (ys.map V.int) (ys.map D.int)
  | [] => .nil
  | y :: ys => .cons (.int y) (ints_rep ys)
theorem call_sortedD (hc : X.calm = true) (hu : X.A.units + 64 < cLine) : CallR X (.builtin "sorted") (rP sortF) := by
  intro pins s σ H xs us Q I r h
  obtain ⟨pa, B, ds, e, hd, hr, g, q⟩ := h
  have old : sortF ds = sortF0 ds → wpAny (model X.prog X.w) X.A (call (.builtin "sorted") us) (EP X pins σ Q) X.xe s := fun z => by
    rw [z] at g
    exact call_sortedD0 hu pins s σ H xs us Q I r ⟨pa, B, ds, e, hd, hr, g, q⟩
  cases ds with
  | nil => exact old rfl
  | cons d ds =>
    cases ds with
    | cons d2 ds => exact old (by cases d <;> first | rfl | (rename_i t _ _; cases t <;> rfl))
    | nil =>
      cases d with
      | dct t ks vs =>
        cases t with
        | true => exact old rfl
        | false =>
          have g : ((intsOf ks).bind fun ns => if ns.length < 60 then some (D.lst ((ns.mergeSort fun a b => decide (a ≤ b)).map .int)) else none) = some e := g
          obtain ⟨ns, e1, g⟩ := Option.bind_eq_some_iff.mp g
          split at g
          case isFalse => cases g
          rename_i hl
          cases g
          obtain ⟨v, rfl, hv⟩ := hr.one
          obtain ⟨a, _, kxs, vxs, rfl, h1, ⟨od, o, rfl, h2⟩, h3, h4⟩ := hv.dct
          obtain ⟨kvs, rfl, rfl, rfl⟩ := (show ∃ kvs : List (Key × V), o = .dK kvs ∧ kxs = kvs.map (fun p => kV p.1) ∧ vxs = kvs.map (·.2) from h2)
          have hks : kvs.map (·.1) = ns.map Sum.inl := by
            rw [intsOf_eq e1] at h3
            exact keys_int (RepL.ints h3)
          refine call_sortedDI hc pins s σ H _ us Q I r ⟨a, kvs, ns, rfl, .inr ⟨od, h1⟩, hks, by omega, fun ys p hp hs hn => ?_⟩
          have ey : ys = ns.mergeSort fun a b => decide (a ≤ b) := by
            refine List.Perm.eq_of_pairwise (le := fun a b => a ≤ b) (fun a b _ _ h1 h2 => Int.le_antisymm h1 h2) hs ?_ (hp.trans (List.mergeSort_perm ns _).symm)
            have := List.pairwise_mergeSort (le := fun (a b : Int) => decide (a ≤ b)) (fun a b c h1 h2 => by simp at *; omega) (fun a b => by simp; omega) ns
            exact this.imp fun h => by simpa using h
          rw [← ey] at q
          exact q _ _ (Ext.new hn) (Rep.newL hd hn (ints_rep ys))
      | _ => exact old rfl
end

/-! ### the table -/
inductive BI where
  | len | abs | int | tuple | tupx | list | all | any | sum | max | min | sorted | repr
  deriving DecidableEq
def BI.nm : BI → Str
  | .len => "len" | .abs => "abs" | .int => "int" | .tuple => "tuple" | .tupx => "tuple" | .list => "list" | .all => "all" | .any => "any" | .sum => "sum" | .max => "max" | .min => "min" | .sorted => "sorted" | .repr => "repr"
def BI.fn : BI → List D → Option D
  | .len => lenF | .abs => absF | .int => intF | .tuple => tupleF | .tupx => tupxF | .list => listF | .all => allF | .any => anyF | .sum => sumF | .max => bestF gtD | .min => bestF lessD | .sorted => sortF | .repr => reprF
theorem pe_bi {X : Cx} (hc : X.calm = true) (hu : X.A.units + 64 < cLine) (gd : X.A.guards = some []) (b : BI) {e : Expr} {es : List Expr} {t : TA} {p pos : Pos} (hg : Gl X b.nm) (hm : X.mg b.nm = none) (ha : PA X (e :: es) t)
    (he : starEach (e :: es) X.env = (false, eval e X.env) :: starEach es X.env) (hpl : (backTo pos (starEach es X.env)).any (·.1) = false) : PE X (.Call (.Name b.nm p) (e :: es) [] pos) (tCB (rP b.fn) t) := by
  cases b with
  | len => exact pe_callB call_lenD hg hm (by decide +kernel) ha (by decide) (by decide) he hpl
  | abs => exact pe_callB call_absD hg hm (by decide +kernel) ha (by decide) (by decide) he hpl
  | int => exact pe_callTy call_intD hg hm (by decide +kernel) ha (by decide) (by decide) he hpl
  | tuple => exact pe_callTy call_tupleD hg hm (by decide +kernel) ha (by decide) (by decide) he hpl
  | tupx => exact pe_callTy call_tupxD hg hm (by decide +kernel) ha (by decide) (by decide) he hpl
  | list => exact pe_callTy call_listD hg hm (by decide +kernel) ha (by decide) (by decide) he hpl
  | all => exact pe_callB (call_allD hc) hg hm (by decide +kernel) ha (by decide) (by decide) he hpl
  | any => exact pe_callB (call_anyD hc) hg hm (by decide +kernel) ha (by decide) (by decide) he hpl
  | sum => exact pe_callB (call_sumD hc) hg hm (by decide +kernel) ha (by decide) (by decide) he hpl
  | max => exact pe_callB (call_bestD hc hu true) hg hm (by decide +kernel) ha (by decide) (by decide) he hpl
  | min => exact pe_callB (call_bestD hc hu false) hg hm (by decide +kernel) ha (by decide) (by decide) he hpl
  | sorted => exact pe_callB (call_sortedD hc hu) hg hm (by decide +kernel) ha (by decide) (by decide) he hpl
  | repr => exact pe_callB (call_reprD gd hu) hg hm (by decide +kernel) ha (by decide) (by decide) he hpl
end Ev

set_option Elab.async false
set_option linter.all false
set_option maxRecDepth 100000
set_option maxHeartbeats 4000000
/-! Ev7: the small syntax, its evaluator. -/
namespace Ev
open PySem PySem.Spec PyProof.Rows L2

mutual
inductive T where
  | nm (i : Nat)
  | tup (ts : Ts)
inductive Ts where
  | nil
  | cons (t : T) (r : Ts)
end
mutual
inductive E where
  | slot (i : Nat)
  | con (d : D)
  | glo (x : Str) (d : D)
  | tup (es : Es)
  | lst (es : Es)
  | bin (o : BOp) (a b : E)
  | cmp (o : COp) (a b : E)
  | chn (o p : COp) (a b c : E)
  | and (es : Es)
  | or (es : Es)
  | not (a : E)
  | neg (a : E)
  | ife (c a b : E)
  | idx (a i : E)
  | slc (a : E) (lo hi : Eo)
  | bi (b : BI) (es : Es)
  | sset (a : E)
  | isi (t : Ty) (a : E)
  | cal (f : Str) (es : Es)
  | mix (r a : E)
  | pget (i : Nat) (k : Int)
  | lc (elt : E) (t : T) (it : Itr) (c : Eo) (own : List Nat)
  | dnw (t : Bool)
  | dn1 (t : Bool) (k v : E)
  | lr1 (e : E)
  | rev (e : E)
  | dc (k v : E) (t : T) (it : Itr) (own : List Nat)
inductive Es where
  | nil
  | cons (star : Bool) (e : E) (r : Es)
inductive Eo where
  | no
  | so (e : E)
inductive Itr where
  | seq (e : E)
  | rng1 (e : E)
  | rng2 (a b : E)
  | enum (e : E)
  | zip (a b : E)
  | keys (e : E)
end

/-- what an expression gives: a value, or an error of the text's own -/
inductive Res where
  | val (d : D)
  | exc (c : Str) (d : D)
inductive RL where
  | vals (ds : List D)
  | exc (c : Str) (d : D)
abbrev Fn := List D → Pt → Option (Res × Pt)

def bindV {α : Type} (x : Option (Res × St')) (f : D → St' → Option (α × St')) (g : Str → D → α) : Option (α × St') := match x with
  | some (.val d, S) => f d S
  | some (.exc c d, S) => some (g c d, S)
  | none => none
abbrev bindR (x : Option (Res × St')) (f : D → St' → Option (Res × St')) : Option (Res × St') := bindV x f Res.exc
abbrev pureV (o : Option D) (S : St') : Option (Res × St') := o.map fun d => (.val d, S)
def bindL (x : Option (RL × St')) (f : List D → St' → Option (Res × St')) : Option (Res × St') := match x with
  | some (.vals ds, S) => f ds S
  | some (.exc c d, S) => some (.exc c d, S)
  | none => none
def truD : D → Option Bool
  | .non => some false
  | .bl b => some b
  | .int i => some (i != 0)
  | .tup xs => some (!xs.isEmpty)
  | .lst xs => some (!xs.isEmpty)
  | .xt xs => some (!xs.isEmpty)
  | .str x => if x.length ≤ LIM then some ((x.length : Int) != 0) else none
  | _ => none
def readS (bo fz : Bool) (i : Nat) (S : St') : Option (Res × St') := match S.env[i]? with
  | some (.val d) => some (.val d, S)
  | some (.own ds) => if bo then some (.val (.lst ds), S) else if fz then some (.val (.lst ds), ⟨S.env.set i (.val (.lst ds)), S.pot⟩) else none
  | some (.od t ks vs) => if bo then some (.val (.dct t ks vs), S) else if fz then some (.val (.dct t ks vs), ⟨S.env.set i (.val (.dct t ks vs)), S.pot⟩) else none
  | _ => none
mutual
def bindT : T → D → List SV → Option (List SV)
  | .nm i, d, env => if i < env.length then some (env.set i (.val d)) else none
  | .tup ts, .tup ds, env => bindTs ts ds env
  | .tup _, _, _ => none
def bindTs : Ts → List D → List SV → Option (List SV)
  | .nil, [], env => some env
  | .cons t r, d :: ds, env => (bindT t d env).bind fun env => bindTs r ds env
  | _, _, _ => none
end
def notOwn (env : List SV) (i : Nat) : Bool := match env[i]? with
  | some (.own _) => false
  | some (.od _ _ _) => false
  | _ => true
def wipeE (env : List SV) : List Nat → List SV
  | [] => env
  | v :: vs => (wipeE env vs).set v .un
noncomputable def lrgD (d : D) : Option D := match d with
  | .int j => if 0 ≤ j ∧ j ≤ mlO then some (.lst ((List.range j.toNat).map fun i => .int (i : Nat))) else none
  | _ => none
def revD : D → Option D
  | .lst xs => some (.lst xs.reverse)
  | _ => none
def keysOf : D → Option (List D)
  | .dct false ks _ => some ks
  | _ => none
/-- the pairs of a dict's comprehension, one by one -/
def dcRun (f : D → Pt → Option ((D × D) × Pt)) : List D → List D × List D → Pt → Option ((List D × List D) × Pt)
  | [], a, P => some (a, P)
  | x :: xs, a, P => (f x P).bind fun y => if isK y.1.1 then dcRun f xs (putD a.1 a.2 y.1.1 y.1.2) y.2 else none
/-- the items of a comprehension, one by one -/
def lcRun (f : D → Pt → Option (Option D × Pt)) : List D → Pt → Option (List D × Pt)
  | [], P => some ([], P)
  | x :: xs, P => (f x P).bind fun (o, P1) => (lcRun f xs P1).map fun (r, P2) => (match o with
    | some d => d :: r
    | none => r, P2)
def seqOf : D → Option (List D)
  | .tup xs => some xs
  | .lst xs => some xs
  | .xt xs => some xs
  | _ => none
def isPot : Option SV → Bool
  | some (.val .pot) => true
  | _ => false
def Pt.cell (P : Pt) (k : Int) : Option Int := if k = 0 then some P.a else if k = 1 then some P.b else if k = 2 then some P.c else none
def Pt.put (P : Pt) (k : Int) (n : Int) : Option Pt := if k = 0 then some ⟨n, P.b, P.c⟩ else if k = 1 then some ⟨P.a, n, P.c⟩ else if k = 2 then some ⟨P.a, P.b, n⟩ else none
def isMix : D → Bool
  | .lst _ => true
  | .xt _ => true
  | _ => false
def intOf : D → Option Int
  | .int i => some i
  | _ => none
def rngL (lo : Int) : Nat → List D
  | 0 => []
  | n + 1 => .int lo :: rngL (lo + 1) n
theorem big_is : ∃ v : Int, v = 4611686018427387904 := ⟨_, rfl⟩
/-- 2^62, which the kernel does not unfold -/
noncomputable def bigO : Int := big_is.choose
theorem bigO_eq : bigO = 4611686018427387904 := big_is.choose_spec
noncomputable def rngD (lo hi : Int) : Option (List D) := if -bigO ≤ lo ∧ lo < bigO ∧ -bigO ≤ hi ∧ hi < bigO then some (rngL lo (hi - lo).toNat) else none
noncomputable def kRng1 : D → Option (List D)
  | .int j => rngD 0 j
  | _ => none
def enumL (i : Int) : List D → List D
  | [] => []
  | x :: xs => .tup [.int i, x] :: enumL (i + 1) xs
def zipL : List D → List D → List D
  | x :: xs, y :: ys => .tup [x, y] :: zipL xs ys
  | _, _ => []
/-- the tuple behind a value -/
def tupOf : D → Option (List D)
  | .tup ds => some ds
  | .xt ds => some ds
  | _ => none
def lstOf : D → Option (List D)
  | .lst ds => some ds
  | _ => none
def zipD (d e : D) : Option (List D) := match lstOf d, lstOf e with
  | some xs, some ys => some (zipL xs ys)
  | _, _ => (tupOf d).bind fun xs => (tupOf e).map fun ys => zipL xs ys
def partOf : D → Option (Option Int)
  | .non => some none
  | .int i => some (some i)
  | _ => none
noncomputable section
variable (Φ : Str → Option Fn)
mutual
/-- bo: the value is looked at alone, not kept; fz: a list that a slot owns may be given away -/
def ev : E → Bool → Bool → St' → Option (Res × St')
  | .slot i, bo, fz, S => readS bo fz i S
  | .con d, _, _, S => some (.val d, S)
  | .glo _ d, _, _, S => some (.val d, S)
  | .tup es, _, fz, S => bindL (evs es false fz S) fun ds S => if ds.length ≤ LIM then some (.val (.tup ds), S) else none
  | .lst es, _, fz, S => bindL (evs es false fz S) fun ds S => if ds.length ≤ LIM then some (.val (.lst ds), S) else none
  | .bin o a b, _, fz, S => bindR (ev a true fz S) fun x S => bindR (ev b true fz S) fun y S => pureV (binD o x y) S
  | .cmp o a b, _, fz, S => bindR (ev a true fz S) fun x S => bindR (ev b true fz S) fun y S => pureV (cmpD o x y) S
  | .chn o p a b c, _, fz, S => bindR (ev a true fz S) fun x S => bindR (ev b true fz S) fun y S => (cmpB o x y).bind fun k =>
      if k then bindR (ev c true fz S) fun z S => pureV (cmpD p y z) S else some (.val (.bl false), S)
  | .and es, bo, fz, S => evAnd es bo fz S
  | .or es, bo, fz, S => evOr es bo fz S
  | .not a, _, fz, S => bindR (ev a true fz S) fun x S => pureV ((truD x).map fun b => .bl (!b)) S
  | .neg a, _, fz, S => bindR (ev a true fz S) fun x S => pureV ((intOf x).map fun i => .int (-i)) S
  | .ife c a b, bo, fz, S => bindR (ev c true fz S) fun x S => (truD x).bind fun k => if k then ev a bo fz S else ev b bo fz S
  | .idx a i, _, fz, S => bindR (ev a true fz S) fun x S => bindR (ev i true fz S) fun y S => pureV (idxD x y) S
  | .slc a lo hi, _, fz, S => bindR (ev a true fz S) fun x S => bindR (evo lo fz S) fun l S => (partOf l).bind fun l => bindR (evo hi fz S) fun h S => (partOf h).bind fun h => pureV (slcD x l h) S
  | .bi b es, _, fz, S => bindL (evs es true fz S) fun ds S => pureV (b.fn ds) S
  | .sset a, _, fz, S => bindR (ev a true fz S) fun x S => pureV (ssetF [x]) S
  | .isi t a, _, fz, S => bindR (ev a true fz S) fun x S => pureV ((isiD t x).map D.bl) S
  | .cal f es, _, fz, S => bindL (evs es false fz S) fun ds S => (Φ f).bind fun g => (g ds S.pot).map fun (r, P) => (r, ⟨S.env, P⟩)
  | .mix r a, _, fz, S => bindR (ev r true fz S) fun x S => if isMix x then bindR (ev a true fz S) fun y S => pureV (idxOfF x [y]) S else none
  | .pget i k, _, _, S => if isPot (S.env[i]?) then (S.pot.cell k).map fun n => (.val (.int n), S) else none
  | .lc elt t it c own, _, fz, S => (evi it true fz S).bind fun (items, S) =>
      if items.length ≤ LIM ∧ own.all (fun i => notOwn S.env i) = true then (lcRun (fun x P => (bindT t x (wipeE S.env own)).bind fun env => (evc c ⟨env, P⟩).bind fun (k, P) =>
        if k then (ev elt false false ⟨env, P⟩).bind fun (r, S1) => (match r with
          | .val d => some (some d, S1.pot)
          | .exc _ _ => none) else some (none, P)) items S.pot).map fun (ds, P) => (.val (.lst ds), ⟨S.env, P⟩) else none
  | .dnw t, _, _, S => some (.val (.dct t [] []), S)
  | .dn1 t k v, _, fz, S => bindR (ev k false fz S) fun k S => bindR (ev v false fz S) fun d S => if keyOk t k = true then some (.val (.dct t [k] [d]), S) else none
  | .lr1 a, _, fz, S => bindR (ev a true fz S) fun x S => pureV (lrgD x) S
  | .rev a, _, fz, S => bindR (ev a true fz S) fun x S => pureV (revD x) S
  | .dc k v t it own, _, fz, S => (evi it true fz S).bind fun (items, S) =>
      if items.length < LIM ∧ own.all (fun i => notOwn S.env i) = true then (dcRun (fun x P => (bindT t x (wipeE S.env own)).bind fun env => (ev k false false ⟨env, P⟩).bind fun (r, S1) => (match r with
        | .val kd => (ev v false false S1).bind fun (r, S2) => (match r with
          | .val d => some ((kd, d), S2.pot)
          | .exc _ _ => none)
        | .exc _ _ => none)) items ([], []) S.pot).map fun (a, P) => (.val (.dct false a.1 a.2), ⟨S.env, P⟩) else none
def evs : Es → Bool → Bool → St' → Option (RL × St')
  | .nil, _, _, S => some (.vals [], S)
  | .cons star e r, bo, fz, S => bindV (ev e (bo || star) fz S) (fun x S => (if star then seqOf x else some [x]).bind fun xs => match evs r bo fz S with
      | some (.vals ys, S) => some (.vals (xs ++ ys), S)
      | some (.exc c d, S) => some (.exc c d, S)
      | none => none) RL.exc
def evo : Eo → Bool → St' → Option (Res × St')
  | .no, _, S => some (.val .non, S)
  | .so e, fz, S => bindR (ev e true fz S) fun x S => (intOf x).bind fun i => some (.val (.int i), S)
def evc : Eo → St' → Option (Bool × Pt)
  | .no, S => some (true, S.pot)
  | .so e, S => (ev e true false S).bind fun (r, S) => (match r with
    | .val d => (truD d).map fun k => (k, S.pot)
    | .exc _ _ => none)
def evAnd : Es → Bool → Bool → St' → Option (Res × St')
  | .nil, _, _, _ => none
  | .cons _ e .nil, bo, fz, S => ev e bo fz S
  | .cons _ e (.cons s e2 r), bo, fz, S => bindR (ev e bo fz S) fun x S => (truD x).bind fun k => if k then evAnd (.cons s e2 r) bo fz S else some (.val x, S)
def evOr : Es → Bool → Bool → St' → Option (Res × St')
  | .nil, _, _, _ => none
  | .cons _ e .nil, bo, fz, S => ev e bo fz S
  | .cons _ e (.cons s e2 r), bo, fz, S => bindR (ev e bo fz S) fun x S => (truD x).bind fun k => if k then some (.val x, S) else evOr (.cons s e2 r) bo fz S
/-- what a for or a comprehension walks -/
def evi : Itr → Bool → Bool → St' → Option (List D × St')
  | .seq e, bo, fz, S => (ev e bo fz S).bind fun (r, S) => (match r with
    | .val d => (seqOf d).map fun xs => (xs, S)
    | .exc _ _ => none)
  | .rng1 e, _, fz, S => (ev e true fz S).bind fun (r, S) => (match r with
    | .val d => (kRng1 d).map fun xs => (xs, S)
    | .exc _ _ => none)
  | .rng2 a b, _, fz, S => (ev a true fz S).bind fun (r, S) => (match r with
    | .val (.int i) => (ev b true fz S).bind fun (r, S) => (match r with
      | .val (.int j) => (rngD i j).map fun xs => (xs, S)
      | _ => none)
    | _ => none)
  | .enum e, bo, fz, S => (ev e bo fz S).bind fun (r, S) => (match r with
    | .val d => (seqOf d).map fun xs => (enumL 0 xs, S)
    | .exc _ _ => none)
  | .zip a b, bo, fz, S => (ev a bo fz S).bind fun (r, S) => (match r with
    | .val d => (ev b bo fz S).bind fun (r, S) => (match r with
      | .val e => (zipD d e).map fun xs => (xs, S)
      | _ => none)
    | .exc _ _ => none)
  | .keys e, bo, fz, S => (ev e bo fz S).bind fun (r, S) => (match r with
    | .val d => (keysOf d).map fun xs => (xs, S)
    | .exc _ _ => none)
end
end
end Ev

set_option Elab.async false
set_option linter.all false
set_option maxRecDepth 100000
set_option maxHeartbeats 4000000
/-! Ev8: the readings of the evaluator's answers; each construct. -/
namespace Ev
open PySem PySem.Spec PyProof.Rows L2

/-- an error that the text raises, as an object -/
def XRep (pa : Option Addr) (B : AP) (H : Hp) (cls : Value) (dx : Option Addr) (x : Str) (d : D) : Prop := False

abbrev Ct.nox (c : Ct) : Ct := { c with xe := fun _ _ _ => False }
section
variable {c : Ct} {F : AP} {σ : L2.St} {H H' H'' : Hp} {S S' S'' : St'} {fz bo : Bool}
theorem EnvR.nox (I : EnvR c F σ H S) : EnvR c.nox F σ H S := ⟨I.len, I.dom, I.pot, I.val, I.ow, I.inj, I.keep⟩
theorem EnvR.unnox (I : EnvR c.nox F σ H S) : EnvR c F σ H S := ⟨I.len, I.dom, I.pot, I.val, I.ow, I.inj, I.keep⟩
theorem EnvR.badDom (I : EnvR c F σ H S) : Dom (Bad F σ S.env) H := fun a h => by
  rcases h with h | ⟨i, ds, e1, e2⟩
  · exact I.dom a h
  · obtain ⟨b, h1, h2, _⟩ := I.ow i ds e1
    rw [e2] at h1
    cases h1
    obtain ⟨o, ho⟩ := h2.there
    rw [ho]
    exact fun z => nomatch z

/-- from one state of an expression's evaluation to a later one -/
structure Stp (c : Ct) (F : AP) (σ : L2.St) (fz : Bool) (H : Hp) (S : St') (H' : Hp) (S' : St') : Prop where
  env : EnvR c F σ H' S'
  st : StepE c.pa H H'
  own : ∀ a, Own σ S'.env a → Own σ S.env a
  fr : fz = false → ∀ a, Own σ S.env a → Own σ S'.env a
theorem Stp.refl (I : EnvR c F σ H S) : Stp c F σ fz H S H S := ⟨I, StepE.refl _ _, fun _ h => h, fun _ _ h => h⟩
theorem Stp.trans (a : Stp c F σ fz H S H' S') (b : Stp c F σ fz H' S' H'' S'') : Stp c F σ fz H S H'' S'' :=
  ⟨b.env, a.st.trans b.st, fun x h => a.own x (b.own x h), fun f x h => b.fr f x (a.fr f x h)⟩
theorem Ext.step {pa : Option Addr} (e : Ext H H') : StepE pa H H' := ⟨fun a o h _ => e a o h, fun a h => by
  cases q : H a with
  | none => exact absurd q h
  | some o =>
    rw [e a o q]
    exact fun z => nomatch z⟩
theorem Stp.ext (I : EnvR c F σ H S) (e : Ext H H') : Stp c F σ fz H S H' S := ⟨I.ext e, e.step, fun _ h => h, fun _ _ h => h⟩
theorem Stp.kp (s : Stp c F σ fz H S H' S') : Keep (Bad F σ S.env) (Bad F σ S'.env) H H' := fun a o h n =>
  ⟨s.st.keep a o h fun e => n (.inl (s.env.notpot e)), fun z => n (z.elim .inl fun w => .inr (s.own a w))⟩
theorem Stp.nox (s : Stp c F σ fz H S H' S') : Stp c.nox F σ fz H S H' S' := ⟨s.env.nox, s.st, s.own, s.fr⟩

/-- as Rep; a list that a slot owns only where the value is merely looked at -/
def RR (bo : Bool) (pa : Option Addr) (F B : AP) (H : Hp) (v : V) (d : D) : Prop := Rep pa B H v d ∨ (bo = true ∧ ∃ a x, v = V.ref a ∧ SV.bd x = some d ∧ x.rp pa B H a ∧ ¬ F a)
inductive RRL (bo : Bool) (pa : Option Addr) (F B : AP) (H : Hp) : List V → List D → Prop
  | nil : RRL bo pa F B H [] []
  | cons {v : V} {d : D} {vs : List V} {ds : List D} : RR bo pa F B H v d → RRL bo pa F B H vs ds → RRL bo pa F B H (v :: vs) (d :: ds)
theorem RR.b {pa : Option Addr} {B : AP} {v : V} {d : D} (h : RR bo pa F B H v d) : RepB pa B H v d := by
  rcases h with h | ⟨_, a, x, e1, e2, e3, _⟩
  · exact .inl h
  · exact .inr ⟨a, x, e1, e2, e3⟩
theorem RR.rep {pa : Option Addr} {B : AP} {v : V} {d : D} (h : RR false pa F B H v d) : Rep pa B H v d := by
  rcases h with h | ⟨z, _⟩
  · exact h
  · cases z
theorem RR.mv {v : V} {d : D} (h : RR bo c.pa F (Bad F σ S.env) H v d) (s : Stp c F σ fz H S H' S') : RR bo c.pa F (Bad F σ S'.env) H' v d := by
  rcases h with h | ⟨z, a, x, e1, e2, e3, e5⟩
  · exact .inl (h.kp s.kp)
  · exact .inr ⟨z, a, x, e1, e2, e3.mv s.kp fun o w => s.st.keep a _ w fun q => e5 (s.env.notpot q), e5⟩
theorem RRL.b {pa : Option Addr} {B : AP} : ∀ {vs : List V} {ds : List D}, RRL bo pa F B H vs ds → RepBL pa B H vs ds
  | _, _, .nil => .nil
  | _, _, .cons h t => .cons h.b (RRL.b t)
theorem RRL.rep {pa : Option Addr} {B : AP} : ∀ {vs : List V} {ds : List D}, RRL false pa F B H vs ds → RepL pa B H vs ds
  | _, _, .nil => .nil
  | _, _, .cons h t => .cons h.rep (RRL.rep t)
theorem RRL.append {pa : Option Addr} {B : AP} : ∀ {vs ws : List V} {ds es : List D}, RRL bo pa F B H vs ds → RRL bo pa F B H ws es → RRL bo pa F B H (vs ++ ws) (ds ++ es)
  | _, _, _, _, .nil, h => h
  | _, _, _, _, .cons a t, h => .cons a (RRL.append t h)
theorem RRL.of {pa : Option Addr} {B : AP} : ∀ {vs : List V} {ds : List D}, RepL pa B H vs ds → RRL bo pa F B H vs ds
  | _, [], h => by cases h; exact .nil
  | _, d :: ds, h => by
    cases h with
    | cons h1 h2 => exact .cons (.inl h1) (RRL.of h2)

/-- what is to hold behind -/
def EndR (c : Ct) (bo : Bool) (F : AP) (σ : L2.St) (S' : St') (H' : Hp) (r : Res) (Q : VK) : Prop := match r with
  | .val d => ∀ v, RR bo c.pa F (Bad F σ S'.env) H' v d → Q v H'
  | .exc x d => ∀ cls dx, XRep c.pa (Bad F σ S'.env) H' cls dx x d → c.xe cls dx H'
def EndL (c : Ct) (bo : Bool) (F : AP) (σ : L2.St) (S' : St') (H' : Hp) (r : RL) (Q : List V → Hp → Prop) : Prop := match r with
  | .vals ds => ∀ vs, RRL bo c.pa F (Bad F σ S'.env) H' vs ds → Q vs H'
  | .exc x d => ∀ cls dx, XRep c.pa (Bad F σ S'.env) H' cls dx x d → c.xe cls dx H'
def EndT (c : Ct) (F : AP) (σ : L2.St) (S' : St') (H' : Hp) (r : Res) (Q : Bool → Hp → Prop) : Prop := match r with
  | .val d => ∃ k, truD d = some k ∧ Q k H'
  | .exc x d => ∀ cls dx, XRep c.pa (Bad F σ S'.env) H' cls dx x d → c.xe cls dx H'
def Fol (c : Ct) (F : AP) (σ : L2.St) (fz bo : Bool) (H : Hp) (S : St') (o : Option (Res × St')) (Q : VK) : Prop := ∃ r S', o = some (r, S') ∧ ∀ H', Stp c F σ fz H S H' S' → EndR c bo F σ S' H' r Q
def FolL (c : Ct) (F : AP) (σ : L2.St) (fz bo : Bool) (H : Hp) (S : St') (o : Option (RL × St')) (Q : List V → Hp → Prop) : Prop := ∃ r S', o = some (r, S') ∧ ∀ H', Stp c F σ fz H S H' S' → EndL c bo F σ S' H' r Q
def FolT (c : Ct) (F : AP) (σ : L2.St) (fz : Bool) (H : Hp) (S : St') (o : Option (Res × St')) (Q : Bool → Hp → Prop) : Prop := ∃ r S', o = some (r, S') ∧ (∀ d, r = .val d → (truD d).isSome = true) ∧ ∀ H', Stp c F σ fz H S H' S' → EndT c F σ S' H' r Q
def tE (c : Ct) (fz bo : Bool) (f : St' → Option (Res × St')) : TE := fun σ H Q => ∃ F S, EnvR c F σ H S ∧ Fol c F σ fz bo H S (f S) Q
def tA (c : Ct) (fz bo : Bool) (f : St' → Option (RL × St')) : TA := fun σ H Q => ∃ F S, EnvR c F σ H S ∧ FolL c F σ fz bo H S (f S) Q
def tT (c : Ct) (fz : Bool) (f : St' → Option (Res × St')) : TT := fun σ H Q => ∃ F S, EnvR c F σ H S ∧ FolT c F σ fz H S (f S) Q

section
variable {Q Q' : VK} {x : Option (Res × St')}
theorem Fol.mono {o : Option (Res × St')} (h : Fol c F σ fz bo H S o Q) (k : ∀ v H', Q v H' → Q' v H') : Fol c F σ fz bo H S o Q' := by
  obtain ⟨r, S', e, g⟩ := h
  refine ⟨r, S', e, fun H' s => ?_⟩
  have q := g H' s
  cases r with
  | val d => exact fun v hv => k v H' (q v hv)
  | exc y d => exact q
theorem Fol.bind {b : Bool} {k : D → St' → Option (Res × St')} (h : Fol c F σ fz bo H S (bindR x k) Q) :
    Fol c F σ fz b H S x fun v H1 => ∃ d S1, Stp c F σ fz H S H1 S1 ∧ RR b c.pa F (Bad F σ S1.env) H1 v d ∧ Fol c F σ fz bo H1 S1 (k d S1) Q := by
  obtain ⟨r, S', e, g⟩ := h
  cases x with
  | none => cases e
  | some p =>
    obtain ⟨r1, S1⟩ := p
    cases r1 with
    | val d => exact ⟨.val d, S1, rfl, fun H1 s v hv => ⟨d, S1, s, hv, r, S', e, fun H' s' => g H' (s.trans s')⟩⟩
    | exc y d =>
      cases (show some (Res.exc y d, S1) = some (r, S') from e)
      exact ⟨.exc y d, _, rfl, fun H1 s => g H1 s⟩
theorem Fol.bindVL {b : Bool} {QL : List V → Hp → Prop} {k : D → St' → Option (RL × St')} (h : FolL c F σ fz bo H S (bindV x k RL.exc) QL) :
    Fol c F σ fz b H S x fun v H1 => ∃ d S1, Stp c F σ fz H S H1 S1 ∧ RR b c.pa F (Bad F σ S1.env) H1 v d ∧ FolL c F σ fz bo H1 S1 (k d S1) QL := by
  obtain ⟨r, S', e, g⟩ := h
  cases x with
  | none => cases e
  | some p =>
    obtain ⟨r1, S1⟩ := p
    cases r1 with
    | val d => exact ⟨.val d, S1, rfl, fun H1 s v hv => ⟨d, S1, s, hv, r, S', e, fun H' s' => g H' (s.trans s')⟩⟩
    | exc y d =>
      cases (show some (RL.exc y d, S1) = some (r, S') from e)
      exact ⟨.exc y d, _, rfl, fun H1 s => g H1 s⟩
theorem Fol.bindL {b : Bool} {y : Option (RL × St')} {k : List D → St' → Option (Res × St')} (h : Fol c F σ fz bo H S (bindL y k) Q) :
    FolL c F σ fz b H S y fun vs H1 => ∃ ds S1, Stp c F σ fz H S H1 S1 ∧ RRL b c.pa F (Bad F σ S1.env) H1 vs ds ∧ Fol c F σ fz bo H1 S1 (k ds S1) Q := by
  obtain ⟨r, S', e, g⟩ := h
  cases y with
  | none => cases e
  | some p =>
    obtain ⟨r1, S1⟩ := p
    cases r1 with
    | vals ds => exact ⟨.vals ds, S1, rfl, fun H1 s vs hv => ⟨ds, S1, s, hv, r, S', e, fun H' s' => g H' (s.trans s')⟩⟩
    | exc y d =>
      cases (show some (Res.exc y d, S1) = some (r, S') from e)
      exact ⟨.exc y d, _, rfl, fun H1 s => g H1 s⟩
theorem Fol.pure {o : Option D} (I : EnvR c F σ H S) (h : Fol c F σ fz bo H S (pureV o S) Q) : ∃ d, o = some d ∧ ∀ v H', Ext H H' → Rep c.pa (Bad F σ S.env) H' v d → Q v H' := by
  obtain ⟨r, S', e, g⟩ := h
  cases o with
  | none => cases e
  | some d =>
    cases e
    exact ⟨d, rfl, fun v H' x hv => g H' (Stp.ext I x) v (.inl hv)⟩
theorem Fol.val {d : D} (I : EnvR c F σ H S) (h : Fol c F σ fz bo H S (some (.val d, S)) Q) {v : V} (hv : RR bo c.pa F (Bad F σ S.env) H v d) : Q v H := by
  obtain ⟨r, S', e, g⟩ := h
  cases e
  exact g H (Stp.refl I) v hv
theorem Fol.opt {α : Type} {o : Option α} {k : α → Option (Res × St')} (h : Fol c F σ fz bo H S (o.bind k) Q) : ∃ a, o = some a ∧ Fol c F σ fz bo H S (k a) Q := by
  obtain ⟨r, S', e, g⟩ := h
  obtain ⟨a, e1, e2⟩ := Option.bind_eq_some_iff.mp e
  exact ⟨a, e1, r, S', e2, g⟩
end

/-! ### constructs -/
section
variable {X : Cx} {a b e : Expr} {pos : Pos} {fa fb fc : St' → Option (Res × St')} {Q : VK}
theorem PE.of {t t' : TE} (h : PE X e t) (w : ∀ σ H Q, t' σ H Q → t σ H Q) : PE X e t' := ⟨fun pins s σ H Q I q => h.run pins s σ H Q I (w σ H Q q)⟩
theorem PT.of {t t' : TT} (h : PT X e t) (w : ∀ σ H Q, t' σ H Q → t σ H Q) : PT X e t' := ⟨fun pins s σ H Q I q => h.run pins s σ H Q I (w σ H Q q)⟩
theorem PW.of {t t' : TT} (h : PW X e t) (w : ∀ σ H Q, t' σ H Q → t σ H Q) : PW X e t' := ⟨fun wh pins s σ H Q I q => h.run wh pins s σ H Q I (w σ H Q q)⟩
theorem PA.of {es : List Expr} {t t' : TA} (h : PA X es t) (w : ∀ σ H Q, t' σ H Q → t σ H Q) : PA X es t' := ⟨fun p pins s σ H Q I q => h.run p pins s σ H Q I (w σ H Q q)⟩
theorem PO.of {eo : Option Expr} {t t' : TO} (h : PO X eo t) (w : ∀ σ H Q, t' σ H Q → t σ H Q) : PO X eo t' := ⟨fun pins s σ H Q I q => h.run pins s σ H Q I (w σ H Q q)⟩
theorem PI.of {tg : Expr} {t t' : TI} (h : PI X tg e t) (w : ∀ σ H R, t' σ H R → t σ H R) : PI X tg e t' := ⟨fun pins s σ H R I q => h.run pins s σ H R I (w σ H R q)⟩
theorem PE.or {t t' : TE} (h : PE X e t) (h' : PE X e t') : PE X e (fun σ H Q => t σ H Q ∨ t' σ H Q) := ⟨fun pins s σ H Q I q => q.elim (fun q => h.run pins s σ H Q I q) fun q => h'.run pins s σ H Q I q⟩
theorem PI.or {tg : Expr} {t t' : TI} (h : PI X tg e t) (h' : PI X tg e t') : PI X tg e (fun σ H Q => t σ H Q ∨ t' σ H Q) := ⟨fun pins s σ H Q I q => q.elim (fun q => h.run pins s σ H Q I q) fun q => h'.run pins s σ H Q I q⟩

theorem set_get {env : List SV} {i j : Nat} {x y : SV} (h : (env.set i x)[j]? = some y) : (i = j ∧ x = y) ∨ (i ≠ j ∧ env[j]? = some y) := by
  by_cases e : i = j
  · subst e
    by_cases hi : i < env.length
    · rw [List.getElem?_set_self hi] at h
      exact .inl ⟨rfl, Option.some.inj h⟩
    · rw [List.getElem?_eq_none (by simpa using hi)] at h
      cases h
  · rw [List.getElem?_set_ne e] at h
    exact .inr ⟨e, h⟩
/-- a slot's own list is given away -/
theorem rp_rep {pa : Option Addr} {B : AP} {x : SV} {d : D} {p : Addr} (hd : x.bd = some d) (h : x.rp pa B H p) (n : ¬ B p) : Rep pa B H (.ref p) d := by
  cases x with
  | own ds =>
    cases hd
    obtain ⟨vs, h2, h3⟩ := h
    exact .lst h2 n h3
  | od t ks vs =>
    cases hd
    obtain ⟨o, kxs, vxs, h1, h2, h3, h4⟩ := h
    exact .dct h1 h2 n h3 h4
  | _ => cases hd
theorem freeze (I : EnvR c F σ H S) {i : Nat} {x : SV} {d : D} (e : S.env[i]? = some x) (hd : x.bd = some d) : ∃ p, σ[i]? = some (some (V.ref p)) ∧ Stp c F σ true H S H ⟨S.env.set i (.val d), S.pot⟩ ∧ Rep c.pa (Bad F σ (S.env.set i (.val d))) H (.ref p) d := by
  obtain ⟨p, h1, h2, h4, h5⟩ := I.ow i x ⟨e, SV.bd_ow hd⟩
  have less : ∀ a, Own σ (S.env.set i (.val d)) a → Own σ S.env a := fun a ⟨j, es, ⟨e1, w⟩, e2⟩ => by
    rcases set_get e1 with ⟨_, z⟩ | ⟨_, z⟩
    · rw [← z] at w
      cases w
    · exact ⟨j, es, ⟨z, w⟩, e2⟩
  have np : ¬ Bad F σ (S.env.set i (.val d)) p := by
    rintro (z | ⟨j, es, ⟨e1, w⟩, e2⟩)
    · exact h4 z
    · rcases set_get e1 with ⟨_, z⟩ | ⟨n, z⟩
      · rw [← z] at w
        cases w
      · exact n (I.inj i j p _ es ⟨e, SV.bd_ow hd⟩ ⟨z, w⟩ h1 e2)
  have kp : Keep (Bad F σ S.env) (Bad F σ (S.env.set i (.val d))) H H := Keep.less fun a z => z.elim .inl fun w => .inr (less a w)
  have rp : Rep c.pa (Bad F σ (S.env.set i (.val d))) H (.ref p) d := rp_rep hd (h2.mv kp fun _ z => z) np
  refine ⟨p, h1, ⟨?_, StepE.refl _ _, less, fun z => nomatch z⟩, rp⟩
  refine ⟨by rw [I.len]; simp, I.dom, I.pot, fun j d ej => ?_, fun j es ⟨ej, w⟩ => ?_, fun j k q es fs ⟨ej, w⟩ ⟨ek, w'⟩ => ?_, I.keep⟩
  · rcases set_get ej with ⟨z1, z2⟩ | ⟨n, z⟩
    · cases z2
      subst z1
      exact ⟨_, h1, rp⟩
    · obtain ⟨v, g1, g2⟩ := I.val j d z
      exact ⟨v, g1, g2.kp kp⟩
  · rcases set_get ej with ⟨z1, z2⟩ | ⟨n, z⟩
    · rw [← z2] at w
      cases w
    · obtain ⟨q, g1, g2, g4, g5⟩ := I.ow j es ⟨z, w⟩
      exact ⟨q, g1, g2.mv kp fun _ z => z, g4, g5⟩
  · rcases set_get ej with ⟨z1, z2⟩ | ⟨n, z⟩
    · rw [← z2] at w
      cases w
    · rcases set_get ek with ⟨z1, z2⟩ | ⟨n', z'⟩
      · rw [← z2] at w'
        cases w'
      · exact I.inj j k q es fs ⟨z, w⟩ ⟨z', w'⟩
theorem slot_ok {x : Str} {i : Nat} (hN : X.N[i]? = some x) (hv : Vis X.env.scope x) (hd : (x == ("__debug__" : Str)) = false) (hcd : (x == ("__classdict__" : Str)) = false) : PE X (.Name x pos) (tE c fz bo (readS bo fz i)) := by
  refine PE.of (pe_var hN hv hd hcd) fun σ H Q h => ?_
  obtain ⟨F, S, I, r, S', e, g⟩ := h
  unfold readS at e
  split at e
  · rename_i d q
    cases e
    obtain ⟨v, h1, h2⟩ := I.val i d q
    exact ⟨v, h1, g H (Stp.refl I) v (.inl h2)⟩
  · rename_i ds q
    split at e
    · rename_i hb
      cases e
      obtain ⟨p, h1, h2, h4, h5⟩ := I.ow i _ ⟨q, rfl⟩
      exact ⟨_, h1, g H (Stp.refl I) _ (.inr ⟨hb, p, _, rfl, rfl, h2, h4⟩)⟩
    · split at e
      · rename_i hz
        cases e
        subst hz
        obtain ⟨p, h1, s, rp⟩ := freeze I q rfl
        exact ⟨_, h1, g H s _ (.inl rp)⟩
      · cases e
  · rename_i t ks vs q
    split at e
    · rename_i hb
      cases e
      obtain ⟨p, h1, h2, h4, h5⟩ := I.ow i _ ⟨q, rfl⟩
      exact ⟨_, h1, g H (Stp.refl I) _ (.inr ⟨hb, p, _, rfl, rfl, h2, h4⟩)⟩
    · split at e
      · rename_i hz
        cases e
        subst hz
        obtain ⟨p, h1, s, rp⟩ := freeze I q rfl
        exact ⟨_, h1, g H s _ (.inl rp)⟩
      · cases e
  · cases e
theorem con_ok {v : V} {d : D} (h : PE X e (tC v)) (r : ∀ B H, Rep c.pa B H v d) : PE X e (tE c fz bo fun S => some (.val d, S)) :=
  PE.of h fun σ H Q ⟨F, S, I, f⟩ => f.val I (.inl (r _ _))
theorem op_read {g : D → D → Option D} {σ : L2.St} {H : Hp} (h : tE c fz bo (fun S => bindR (fa S) fun x S => bindR (fb S) fun y S => pureV (g x y) S) σ H Q) : tOp (r2P g) (tE c fz true fa) (tE c fz true fb) σ H Q := by
  obtain ⟨F, S, I, f⟩ := h
  refine ⟨F, S, I, f.bind.mono fun x H1 ⟨d, S1, s1, r1, f1⟩ => ⟨F, S1, s1.env, f1.bind.mono fun y H2 ⟨d2, S2, s2, r2, f2⟩ => ?_⟩⟩
  obtain ⟨z, e, q⟩ := f2.pure s2.env
  exact ⟨c.pa, _, d, d2, z, s2.env.badDom, (r1.mv s2).b, r2.b, e, q⟩
theorem tru_rep {K : Frag} {pa : Option Addr} {B : AP} {v : V} {d : D} {k : Bool} (h : RepB pa B H v d) (e : truD d = some k) : TruV K v H k := by
  cases d with
  | non =>
    have q := h.non; subst q
    exact (Option.some.inj e).symm
  | bl i =>
    have q := h.bl; subst q
    exact (Option.some.inj e).symm
  | int i =>
    have q := h.int; subst q
    exact (Option.some.inj e).symm
  | str y =>
    have q := h.str; subst q
    have e : (if y.length ≤ LIM then some ((y.length : Int) != 0) else none) = some k := e
    by_cases hy : y.length ≤ LIM
    · rw [if_pos hy] at e
      exact ⟨by rw [lim_eq]; exact hy, (Option.some.inj e).symm⟩
    · rw [if_neg hy] at e
      cases e
  | tup ys =>
    obtain ⟨p, zs, rfl, ha, _, hz⟩ := h.tup
    refine .inr (.inl ⟨zs, SqT.of ha, ?_⟩)
    rw [← Option.some.inj e]
    have := hz.length
    cases zs <;> cases ys <;> simp_all
  | lst ys =>
    obtain ⟨p, zs, rfl, ha, hz⟩ := h.lst
    refine .inl ⟨zs, SqL.of ha, ?_⟩
    rw [← Option.some.inj e]
    have := hz.length
    cases zs <;> cases ys <;> simp_all
  | xt ys =>
    obtain ⟨p, o, zs, rfl, ha, _, _, hz⟩ := h.xt
    refine .inr (.inl ⟨zs, .inl (.inr ⟨o, ha⟩), ?_⟩)
    rw [← Option.some.inj e]
    have := hz.length
    cases zs <;> cases ys <;> simp_all
  | _ => cases e
/-- an expression's value as a test -/
theorem truth_ok (ha : PE X a (tE c fz true fa)) (he : ∀ whole, isTrue a X.env whole = (do let v ← whole; standAt a.pos; holding [v] (truthy v))) : PT X a (tT c fz fa) := by
  refine PT.of (pt_truth ha he) fun σ H Q h => ?_
  obtain ⟨F, S, I, r, S', e, hk, g⟩ := h
  refine ⟨F, S, I, r, S', e, fun H' s => ?_⟩
  have q := g H' s
  cases r with
  | val d =>
    intro v hv
    obtain ⟨k, e1, q⟩ := q
    exact ⟨k, tru_rep hv.b e1, q⟩
  | exc y d => exact q
theorem bind2_bl {g : D → D → Option Bool} {S S' : St'} {d : D} (e : bindR (fa S) (fun x S => bindR (fb S) fun y S => pureV ((g x y).map D.bl) S) = some (.val d, S')) : ∃ b, d = .bl b := by
  generalize fa S = o1 at e
  cases o1 with
  | none => cases e
  | some p1 =>
    obtain ⟨r1, S1⟩ := p1
    cases r1 with
    | exc _ _ => cases e
    | val d1 =>
      have e : bindR (fb S1) (fun y S => pureV ((g d1 y).map D.bl) S) = some (.val d, S') := e
      generalize fb S1 = o2 at e
      cases o2 with
      | none => cases e
      | some p2 =>
        obtain ⟨r2, S2⟩ := p2
        cases r2 with
        | exc _ _ => cases e
        | val d2 =>
          have e : ((g d1 d2).map D.bl).map (fun d => (Res.val d, S2)) = some (.val d, S') := e
          generalize g d1 d2 = o3 at e
          cases o3 with
          | none => cases e
          | some b => cases e; exact ⟨b, rfl⟩
/-- of two bools' comparison -/
theorem cmpT_ok {g : D → D → Option Bool} (h : PT X a (tTest (tOp (r2P fun x y => (g x y).map D.bl) (tE c fz true fa) (tE c fz true fb)))) : PT X a (tT c fz fun S => bindR (fa S) fun x S => bindR (fb S) fun y S => pureV ((g x y).map D.bl) S) := by
  refine PT.of h fun σ H Q h => ?_
  refine op_read (bo := false) ?_
  obtain ⟨F, S, I, r, S', e, hk, g'⟩ := h
  refine ⟨F, S, I, r, S', e, fun H' s => ?_⟩
  have q := g' H' s
  cases r with
  | val d =>
    intro v hv
    obtain ⟨k, e1, q⟩ := q
    have hd := bind2_bl e
    obtain ⟨b, rfl⟩ := hd
    cases Option.some.inj e1
    have ev := hv.b.bl
    subst ev
    exact ⟨_, rfl, q⟩
  | exc y d => exact q
end
end
end Ev

set_option Elab.async false
set_option linter.all false
set_option maxRecDepth 100000
set_option maxHeartbeats 4000000
/-! EvD3: expressions with dicts. -/
namespace Ev
open PySem PySem.Spec PyProof.Rows L2
section
variable {c : Ct} {F : AP} {σ σ' : L2.St} {H H' H'' : Hp} {S S' S'' : St'} {fz bo : Bool}
variable {X : Cx} {a b e o i : Expr} {pos p : Pos} {fa fb fc : St' → Option (Res × St')} {Q : VK}
theorem dget_ok (hu : X.A.units + 64 < cLine) (ha : PE X o (tE c fz true fa)) (hb : PE X i (tE c fz true fb)) (hs : NoSl i) : PE X (.Subscript o i pos) (tE c fz bo fun S => bindR (fa S) fun x S => bindR (fb S) fun y S => pureV (dgetD x y) S) :=
  PE.of (pe_aget hu ha hb hs) fun σ H Q ⟨F, S, I, f⟩ => by
    refine ⟨F, S, I, f.bind.mono fun x H1 ⟨d, S1, s1, r1, f1⟩ => ⟨F, S1, s1.env, f1.bind.mono fun y H2 ⟨d2, S2, s2, r2, f2⟩ => ?_⟩⟩
    obtain ⟨z, e, q⟩ := f2.pure s2.env
    cases d with
    | dct t ks vs =>
      have e : (if keyOk t d2 = true then lookD ks vs d2 else none) = some z := e
      split at e
      case isFalse => cases e
      rename_i hk
      obtain ⟨a, w, rfl, g, w'⟩ := aget_of (r1.mv s2).b r2.b hk
      rw [e] at w'
      obtain ⟨u, rfl, ru⟩ := w'
      exact ⟨a, u, rfl, g, q u _ (Ext.refl _) ru⟩
    | _ => cases e
theorem din_read (h : tE c fz bo (fun S => bindR (fa S) fun x S => bindR (fb S) fun y S => pureV ((dinD x y).map D.bl) S) σ H Q) : tAIn (tE c fz true fa) (tE c fz true fb) σ H Q := by
  obtain ⟨F, S, I, f⟩ := h
  refine ⟨F, S, I, f.bind.mono fun x H1 ⟨d, S1, s1, r1, f1⟩ => ⟨F, S1, s1.env, f1.bind.mono fun y H2 ⟨d2, S2, s2, r2, f2⟩ => ?_⟩⟩
  obtain ⟨z, e, q⟩ := f2.pure s2.env
  cases d2 with
  | dct t ks vs =>
    have e : (if keyOk t d = true then some (lookD ks vs d).isSome else none).map D.bl = some z := e
    split at e
    case isFalse => cases e
    rename_i hk
    cases e
    obtain ⟨a, w, rfl, g, w'⟩ := aget_of r2.b (r1.mv s2).b hk
    refine ⟨a, w, rfl, g, ?_⟩
    rw [w'.isSome]
    exact q _ _ (Ext.refl _) (.bl _)
  | _ => cases e
theorem dnin_read (h : tE c fz bo (fun S => bindR (fa S) fun x S => bindR (fb S) fun y S => pureV (((dinD x y).map (!·)).map D.bl) S) σ H Q) : tANotIn (tE c fz true fa) (tE c fz true fb) σ H Q := by
  obtain ⟨F, S, I, f⟩ := h
  refine ⟨F, S, I, f.bind.mono fun x H1 ⟨d, S1, s1, r1, f1⟩ => ⟨F, S1, s1.env, f1.bind.mono fun y H2 ⟨d2, S2, s2, r2, f2⟩ => ?_⟩⟩
  obtain ⟨z, e, q⟩ := f2.pure s2.env
  cases d2 with
  | dct t ks vs =>
    have e : ((if keyOk t d = true then some (lookD ks vs d).isSome else none).map (!·)).map D.bl = some z := e
    split at e
    case isFalse => cases e
    rename_i hk
    cases e
    obtain ⟨a, w, rfl, g, w'⟩ := aget_of r2.b (r1.mv s2).b hk
    refine ⟨a, w, rfl, g, ?_⟩
    rw [w'.isSome]
    exact q _ _ (Ext.refl _) (.bl _)
  | _ => cases e
theorem din_ok (hu : X.A.units + 64 < cLine) (ha : PE X a (tE c fz true fa)) (hb : PE X b (tE c fz true fb)) (hm : behindInMarks .In b = false) : PE X (.Compare a [.In] [b] pos) (tE c fz bo fun S => bindR (fa S) fun x S => bindR (fb S) fun y S => pureV ((dinD x y).map D.bl) S) :=
  PE.of (pe_cmp (pc_ain hu ha hb) hm) fun σ H Q h => din_read h
theorem dnin_ok (hu : X.A.units + 64 < cLine) (ha : PE X a (tE c fz true fa)) (hb : PE X b (tE c fz true fb)) (hm : behindInMarks .NotIn b = false) : PE X (.Compare a [.NotIn] [b] pos) (tE c fz bo fun S => bindR (fa S) fun x S => bindR (fb S) fun y S => pureV (((dinD x y).map (!·)).map D.bl) S) :=
  PE.of (pe_cmp (pc_anotin hu ha hb) hm) fun σ H Q h => dnin_read h
/-- of two bools' comparison, any -/
theorem bT_ok {g : D → D → Option Bool} {t : TE} (hr : ∀ (bo : Bool) {σ : L2.St} {H : Hp} {Q : VK}, tE c fz bo (fun S => bindR (fa S) fun x S => bindR (fb S) fun y S => pureV ((g x y).map D.bl) S) σ H Q → t σ H Q) (h : PT X a (tB t)) :
    PT X a (tT c fz fun S => bindR (fa S) fun x S => bindR (fb S) fun y S => pureV ((g x y).map D.bl) S) := by
  refine PT.of h fun σ H Q h => ?_
  refine hr false ?_
  obtain ⟨F, S, I, r, S', e, hk, g'⟩ := h
  refine ⟨F, S, I, r, S', e, fun H' s => ?_⟩
  have q := g' H' s
  cases r with
  | val d =>
    intro v hv
    obtain ⟨k, e1, q⟩ := q
    have hd := bind2_bl e
    obtain ⟨b, rfl⟩ := hd
    cases Option.some.inj e1
    have ev := hv.b.bl
    subst ev
    exact ⟨_, rfl, q⟩
  | exc y d => exact q
theorem dinT_ok (hu : X.A.units + 64 < cLine) (ha : PE X a (tE c fz true fa)) (hb : PE X b (tE c fz true fb)) (hm : behindInMarks .In b = false) : PT X (.Compare a [.In] [b] pos) (tT c fz fun S => bindR (fa S) fun x S => bindR (fb S) fun y S => pureV ((dinD x y).map D.bl) S) :=
  bT_ok (g := dinD) (fun bo => din_read) (pt_cmp (pc_ain hu ha hb) hm)
theorem dninT_ok (hu : X.A.units + 64 < cLine) (ha : PE X a (tE c fz true fa)) (hb : PE X b (tE c fz true fb)) (hm : behindInMarks .NotIn b = false) : PT X (.Compare a [.NotIn] [b] pos) (tT c fz fun S => bindR (fa S) fun x S => bindR (fb S) fun y S => pureV (((dinD x y).map (!·)).map D.bl) S) :=
  bT_ok (g := fun x y => (dinD x y).map (!·)) (fun bo => dnin_read) (pt_cmp (pc_anotin hu ha hb) hm)
end
end Ev

set_option Elab.async false
set_option linter.all false
set_option maxRecDepth 100000
set_option maxHeartbeats 4000000
/-! Ev9: each construct, on. -/
namespace Ev
open PySem PySem.Spec PyProof.Rows L2
section
variable {c : Ct} {F : AP} {σ : L2.St} {H H' H'' : Hp} {S S' S'' : St'} {fz bo : Bool}
variable {X : Cx} {a b e : Expr} {pos : Pos} {fa fb fc : St' → Option (Res × St')} {Q : VK}

/-! ### lists of expressions -/
theorem nil_ok : PA X [] (tA c fz bo fun S => some (.vals [], S)) := PA.of pa_nil fun σ H Q ⟨F, S, I, r, S', e, g⟩ => by
  cases e
  exact g H (Stp.refl I) [] .nil
theorem cons_ok {es : List Expr} {fr : St' → Option (RL × St')} (ha : PE X e (tE c fz bo fa)) (hr : PA X es (tA c fz bo fr)) (hs : starEach (e :: es) X.env = (false, eval e X.env) :: starEach es X.env) :
    PA X (e :: es) (tA c fz bo fun S => bindV (fa S) (fun x S => (some [x]).bind fun xs => match fr S with
      | some (.vals ys, S) => some (.vals (xs ++ ys), S)
      | some (.exc c d, S) => some (.exc c d, S)
      | none => none) RL.exc) := PA.of (pa_cons ha hr hs) fun σ H Q ⟨F, S, I, f⟩ => by
  refine ⟨F, S, I, (Fol.bindVL f).mono fun x H1 ⟨d, S1, s1, r1, r, S', e, g⟩ => ⟨F, S1, s1.env, ?_⟩⟩
  generalize fr S1 = o at e
  cases o with
  | none => cases e
  | some p =>
    obtain ⟨q, S2⟩ := p
    cases q with
    | vals ys =>
      cases e
      exact ⟨.vals ys, _, rfl, fun H2 s2 vs hv => g H2 s2 _ (.cons (r1.mv s2) hv)⟩
    | exc y d =>
      cases e
      exact ⟨.exc y d, _, rfl, fun H2 s2 => g H2 s2⟩
theorem seq_rep {K : Frag} {pa : Option Addr} {B : AP} {v : V} {d : D} {ds : List D} (h : RepB pa B H v d) (e : seqOf d = some ds) : ∃ p xs, v = .ref p ∧ (SqL K H p xs ∨ SqT K H p xs) ∧ RepL pa B H xs ds := by
  cases d with
  | tup ys =>
    cases e
    obtain ⟨p, zs, rfl, ha, _, hz⟩ := h.tup
    exact ⟨p, zs, rfl, .inr (SqT.of ha), hz⟩
  | lst ys =>
    cases e
    obtain ⟨p, zs, rfl, ha, hz⟩ := h.lst
    exact ⟨p, zs, rfl, .inl (SqL.of ha), hz⟩
  | xt ys =>
    cases e
    obtain ⟨p, o, zs, rfl, ha, _, _, hz⟩ := h.xt
    exact ⟨p, zs, rfl, .inr (.inl (.inr ⟨o, ha⟩)), hz⟩
  | _ => cases e
theorem RRL.mv {vs : List V} {ds : List D} (h : RRL bo c.pa F (Bad F σ S.env) H vs ds) (s : Stp c F σ fz H S H' S') : RRL bo c.pa F (Bad F σ S'.env) H' vs ds := by
  induction h with
  | nil => exact .nil
  | cons h t ih => exact .cons (h.mv s) ih
theorem star_ok {es : List Expr} {p : Pos} {fr : St' → Option (RL × St')} (ha : PE X e (tE c fz true fa)) (hr : PA X es (tA c fz bo fr)) (hs : starEach (.Starred e p :: es) X.env = (true, eval e X.env) :: starEach es X.env) :
    PA X (.Starred e p :: es) (tA c fz bo fun S => bindV (fa S) (fun x S => (seqOf x).bind fun xs => match fr S with
      | some (.vals ys, S) => some (.vals (xs ++ ys), S)
      | some (.exc c d, S) => some (.exc c d, S)
      | none => none) RL.exc) := PA.of (pa_star ha hr hs) fun σ H Q ⟨F, S, I, f⟩ => by
  refine ⟨F, S, I, (Fol.bindVL f).mono fun x H1 ⟨d, S1, s1, r1, r, S', e, g⟩ => ?_⟩
  obtain ⟨ds, e1, e⟩ := Option.bind_eq_some_iff.mp e
  obtain ⟨q, xs, e2, hq, hx⟩ := seq_rep (K := X.K) r1.b e1
  refine ⟨q, xs, e2, hq, F, S1, s1.env, ?_⟩
  have hx' : RRL bo c.pa F (Bad F σ S1.env) H1 xs ds := .of hx
  generalize fr S1 = o at e
  cases o with
  | none => cases e
  | some p =>
    obtain ⟨q, S2⟩ := p
    cases q with
    | vals ys =>
      cases e
      exact ⟨.vals ys, _, rfl, fun H2 s2 vs hv => g H2 s2 _ ((hx'.mv s2).append hv)⟩
    | exc y d =>
      cases e
      exact ⟨.exc y d, _, rfl, fun H2 s2 => g H2 s2⟩

/-! ### displays -/
theorem lit_read {new : List V → HO} {D1 : List D → D} {f : St' → Option (RL × St')} (hn : ∀ p H xs ds, H p = none → ∀ B, Dom B H → RepL c.pa B H xs ds → Rep c.pa B (upd H p (new xs)) (.ref p) (D1 ds))
    (h : tE c fz bo (fun S => bindL (f S) fun ds S => if ds.length ≤ LIM then some (.val (D1 ds), S) else none) σ H Q) :
    tA c fz false f σ H fun xs H1 => xs.length ≤ sizeLine ∧ ∀ p, H1 p = none → Q (.ref p) (upd H1 p (new xs)) := by
  obtain ⟨F, S, I, f1⟩ := h
  have f2 := Fol.bindL (b := false) f1
  refine ⟨F, S, I, ?_⟩
  obtain ⟨r, S', e, g⟩ := f2
  refine ⟨r, S', e, fun H1 s => ?_⟩
  have q := g H1 s
  cases r with
  | exc y d => exact q
  | vals ds =>
    intro vs hv
    obtain ⟨ds', S1, s1, hv1, r2, S2, e2, g2⟩ := q vs hv
    split at e2
    · rename_i hl
      cases e2
      refine ⟨by rw [hv1.rep.length, lim_eq]; exact hl, fun p hp => ?_⟩
      exact g2 _ (Stp.ext s1.env (Ext.new hp)) _ (.inl (hn p H1 vs ds' hp _ s1.env.badDom hv1.rep))
    · cases e2
theorem tup_ok {es : List Expr} {k : Nat} {f : St' → Option (RL × St')} (h : PA X es (tA c fz false f)) : PE X (.Tuple es k pos) (tE c fz bo fun S => bindL (f S) fun ds S => if ds.length ≤ LIM then some (.val (.tup ds), S) else none) :=
  PE.of (pe_tup h) fun σ H Q q => lit_read (new := .tup) (D1 := .tup) (fun p H xs ds hp B hB hr => Rep.newT hB hp hr) q
theorem lst_ok {es : List Expr} {f : St' → Option (RL × St')} (h : PA X es (tA c fz false f)) : PE X (.List es pos) (tE c fz bo fun S => bindL (f S) fun ds S => if ds.length ≤ LIM then some (.val (.lst ds), S) else none) :=
  PE.of (pe_lst h) fun σ H Q q => lit_read (new := .lst) (D1 := .lst) (fun p H xs ds hp B hB hr => Rep.newL hB hp hr) q

/-! ### chains, and, or, not, if -/
theorem chn_read {g g' : D → D → Option Bool} (h : tE c fz bo (fun S => bindR (fa S) fun x S => bindR (fb S) fun y S => (g x y).bind fun k =>
      if k then bindR (fc S) fun z S => pureV ((g' y z).map D.bl) S else some (.val (.bl false), S)) σ H Q) :
    tChain (r2P fun x y => (g x y).map D.bl) (r2P fun x y => (g' x y).map D.bl) (tE c fz true fa) (tE c fz true fb) (tE c fz true fc) σ H Q := by
  obtain ⟨F, S, I, f⟩ := h
  refine ⟨F, S, I, f.bind.mono fun x H1 ⟨d, S1, s1, r1, f1⟩ => ⟨F, S1, s1.env, f1.bind.mono fun y H2 ⟨d2, S2, s2, r2, f2⟩ => ?_⟩⟩
  obtain ⟨k, e, f3⟩ := f2.opt
  refine ⟨c.pa, _, d, d2, .bl k, s2.env.badDom, (r1.mv s2).b, r2.b, (by show (g d d2).map D.bl = some (.bl k); rw [e]; rfl), fun v H3 x3 hv => ?_⟩
  cases hv
  refine ⟨k, rfl, ?_⟩
  have s3 : Stp c F σ fz H2 S2 H3 S2 := Stp.ext s2.env x3
  cases k with
  | false =>
    have f3 : Fol c F σ fz bo H2 S2 (some (.val (.bl false), S2)) Q := f3
    obtain ⟨r, S', e, g⟩ := f3
    cases e
    exact g H3 s3 _ (.inl (.bl _))
  | true =>
    have f3 : Fol c F σ fz bo H2 S2 (bindR (fc S2) fun z S => pureV ((g' d2 z).map D.bl) S) Q := f3
    have f4 : Fol c F σ fz bo H3 S2 (bindR (fc S2) fun z S => pureV ((g' d2 z).map D.bl) S) Q := by
      obtain ⟨r, S', e, g⟩ := f3
      exact ⟨r, S', e, fun H' s' => g H' (s3.trans s')⟩
    show tE c fz true fc σ H3 _
    refine ⟨F, S2, s3.env, f4.bind.mono fun z H4 ⟨d3, S3, s4, r3, f5⟩ => ?_⟩
    obtain ⟨w, e, q⟩ := f5.pure s4.env
    exact ⟨c.pa, _, d2, d3, w, s4.env.badDom, ((r2.mv s3).mv s4).b, r3.b, e, q⟩
/-- an earlier state: what is to hold from there holds from here -/
theorem Fol.from {o : Option (Res × St')} (h : Fol c F σ fz bo H S o Q) (s : Stp c F σ fz H S H' S) : Fol c F σ fz bo H' S o Q := by
  obtain ⟨r, S', e, g⟩ := h
  exact ⟨r, S', e, fun H' s' => g H' (s.trans s')⟩
theorem and_read {tb : TE} (hb : ∀ σ H Q, tE c fz bo fb σ H Q → tb σ H Q) (h : tE c fz bo (fun S => bindR (fa S) fun x S => (truD x).bind fun k => if k then fb S else some (.val x, S)) σ H Q) :
    tAndT X.K (tE c fz bo fa) tb σ H Q := by
  obtain ⟨F, S, I, f⟩ := h
  refine ⟨F, S, I, f.bind.mono fun x H1 ⟨d, S1, s1, r1, f1⟩ => ?_⟩
  obtain ⟨k, e, f2⟩ := f1.opt
  refine ⟨k, tru_rep r1.b e, ?_⟩
  cases k with
  | true => exact hb _ _ _ ⟨F, S1, s1.env, f2⟩
  | false => exact f2.val s1.env r1
theorem or_read {tb : TE} (hb : ∀ σ H Q, tE c fz bo fb σ H Q → tb σ H Q) (h : tE c fz bo (fun S => bindR (fa S) fun x S => (truD x).bind fun k => if k then some (.val x, S) else fb S) σ H Q) :
    tOrT X.K (tE c fz bo fa) tb σ H Q := by
  obtain ⟨F, S, I, f⟩ := h
  refine ⟨F, S, I, f.bind.mono fun x H1 ⟨d, S1, s1, r1, f1⟩ => ?_⟩
  obtain ⟨k, e, f2⟩ := f1.opt
  refine ⟨k, tru_rep r1.b e, ?_⟩
  cases k with
  | false => exact hb _ _ _ ⟨F, S1, s1.env, f2⟩
  | true => exact f2.val s1.env r1
theorem FolT.bind {QT : Bool → Hp → Prop} {x : Option (Res × St')} {k : D → Bool → St' → Option (Res × St')} (h : FolT c F σ fz H S (bindR x fun d S => (truD d).bind fun b => k d b S) QT) :
    FolT c F σ fz H S x fun b H1 => ∃ d S1, truD d = some b ∧ Stp c F σ fz H S H1 S1 ∧ FolT c F σ fz H1 S1 (k d b S1) QT := by
  obtain ⟨r, S', e, ht, g⟩ := h
  cases x with
  | none => cases e
  | some p =>
    obtain ⟨r1, S1⟩ := p
    cases r1 with
    | val d =>
      obtain ⟨b, e1, e2⟩ := Option.bind_eq_some_iff.mp e
      refine ⟨.val d, S1, rfl, fun d' z => ?_, fun H1 s => ⟨b, e1, d, S1, e1, s, r, S', e2, ht, fun H' s' => g H' (s.trans s')⟩⟩
      cases z
      rw [e1]
      rfl
    | exc y d =>
      cases e
      exact ⟨.exc y d, _, rfl, fun d' z => (nomatch z), fun H1 s => g H1 s⟩
theorem FolT.mono {QT QT' : Bool → Hp → Prop} {o : Option (Res × St')} (h : FolT c F σ fz H S o QT) (k : ∀ v H', QT v H' → QT' v H') : FolT c F σ fz H S o QT' := by
  obtain ⟨r, S', e, ht, g⟩ := h
  refine ⟨r, S', e, ht, fun H' s => ?_⟩
  have q := g H' s
  cases r with
  | val d =>
    obtain ⟨b, e, q⟩ := q
    exact ⟨b, e, k b H' q⟩
  | exc y d => exact q
theorem FolT.val {QT : Bool → Hp → Prop} {d : D} (I : EnvR c F σ H S) (h : FolT c F σ fz H S (some (.val d, S)) QT) : ∃ k, truD d = some k ∧ QT k H := by
  obtain ⟨r, S', e, ht, g⟩ := h
  cases e
  exact g H (Stp.refl I)
theorem andT_read {QT : Bool → Hp → Prop} {tb : TT} (hb : ∀ σ H Q, tT c fz fb σ H Q → tb σ H Q) (h : tT c fz (fun S => bindR (fa S) fun x S => (truD x).bind fun k => if k then fb S else some (.val x, S)) σ H QT) :
    tAnd (tT c fz fa) tb σ H QT := by
  obtain ⟨F, S, I, f⟩ := h
  refine ⟨F, S, I, (FolT.bind (k := fun x k S => if k then fb S else some (.val x, S)) f).mono fun k H1 ⟨d, S1, e, s1, f1⟩ => ?_⟩
  cases k with
  | true => exact hb _ _ _ ⟨F, S1, s1.env, f1⟩
  | false =>
    obtain ⟨k, e2, q⟩ := FolT.val s1.env f1
    rw [e] at e2
    cases e2
    exact q
theorem orT_read {QT : Bool → Hp → Prop} {tb : TT} (hb : ∀ σ H Q, tT c fz fb σ H Q → tb σ H Q) (h : tT c fz (fun S => bindR (fa S) fun x S => (truD x).bind fun k => if k then some (.val x, S) else fb S) σ H QT) :
    tOr (tT c fz fa) tb σ H QT := by
  obtain ⟨F, S, I, f⟩ := h
  refine ⟨F, S, I, (FolT.bind (k := fun x k S => if k then some (.val x, S) else fb S) f).mono fun k H1 ⟨d, S1, e, s1, f1⟩ => ?_⟩
  cases k with
  | false => exact hb _ _ _ ⟨F, S1, s1.env, f1⟩
  | true =>
    obtain ⟨k, e2, q⟩ := FolT.val s1.env f1
    rw [e] at e2
    cases e2
    exact q
theorem not_ok (ha : PE X a (tE c fz true fa)) : PE X (.UnaryOp .Not a pos) (tE c fz bo fun S => bindR (fa S) fun x S => pureV ((truD x).map fun b => .bl (!b)) S) :=
  PE.of (pe_notT ha) fun σ H Q ⟨F, S, I, f⟩ => by
    refine ⟨F, S, I, f.bind.mono fun x H1 ⟨d, S1, s1, r1, f1⟩ => ?_⟩
    obtain ⟨w, e, q⟩ := f1.pure s1.env
    cases hk : truD d with
    | none =>
      rw [hk] at e
      cases e
    | some k =>
      rw [hk] at e
      cases e
      exact ⟨k, tru_rep r1.b hk, q _ _ (Ext.refl _) (.bl _)⟩
theorem notT_ok (ha : PT X a (tT c fz fa)) : PT X (.UnaryOp .Not a pos) (tT c fz fun S => bindR (fa S) fun x S => pureV ((truD x).map fun b => .bl (!b)) S) :=
  PT.of (pt_not ha) fun σ H Q ⟨F, S, I, r, S', e, ht, g⟩ => by
    refine ⟨F, S, I, ?_⟩
    dsimp only at e
    generalize fa S = o at e
    cases o with
    | none => cases e
    | some p =>
      obtain ⟨r1, S1⟩ := p
      cases r1 with
      | exc y d =>
        cases e
        exact ⟨.exc y d, _, rfl, fun d' z => (nomatch z), fun H1 s => g H1 s⟩
      | val d =>
        have e : ((truD d).map fun b => D.bl (!b)).map (fun d => (Res.val d, S1)) = some (r, S') := e
        cases hk : truD d with
        | none =>
          rw [hk] at e
          cases e
        | some k =>
          rw [hk] at e
          cases e
          refine ⟨.val d, _, rfl, fun d' z => (by cases z; rw [hk]; rfl), fun H1 s => ⟨k, hk, ?_⟩⟩
          obtain ⟨k2, e2, q⟩ := g H1 s
          cases e2
          exact q
theorem neg_ok (ha : PE X a (tE c fz true fa)) : PE X (.UnaryOp .USub a pos) (tE c fz bo fun S => bindR (fa S) fun x S => pureV ((intOf x).map fun i => .int (-i)) S) :=
  PE.of (pe_un un_neg ha) fun σ H Q ⟨F, S, I, f⟩ => by
    refine ⟨F, S, I, f.bind.mono fun x H1 ⟨d, S1, s1, r1, f1⟩ => ?_⟩
    obtain ⟨w, e, q⟩ := f1.pure s1.env
    cases d with
    | int i =>
      cases e
      have hx := r1.b.int
      subst hx
      exact ⟨i, rfl, q _ _ (Ext.refl _) (.int _)⟩
    | _ => cases e
theorem ife_ok {cd : Expr} (hc : PT X cd (tT c fz fc)) (ha : PE X a (tE c fz bo fa)) (hb : PE X b (tE c fz bo fb)) :
    PE X (.IfExp cd a b pos) (tE c fz bo fun S => bindR (fc S) fun x S => (truD x).bind fun k => if k then fa S else fb S) :=
  PE.of (pe_ifExp hc ha hb) fun σ H Q ⟨F, S, I, r, S', e, g⟩ => by
    refine ⟨F, S, I, ?_⟩
    dsimp only at e
    generalize fc S = o at e
    cases o with
    | none => cases e
    | some p =>
      obtain ⟨r1, S1⟩ := p
      cases r1 with
      | exc y d =>
        cases e
        exact ⟨.exc y d, _, rfl, fun d' z => (nomatch z), fun H1 s => g H1 s⟩
      | val d =>
        obtain ⟨k, hk, e⟩ := Option.bind_eq_some_iff.mp (show (truD d).bind (fun k => if k then fa S1 else fb S1) = some (r, S') from e)
        refine ⟨.val d, _, rfl, fun d' z => (by cases z; rw [hk]; rfl), fun H1 s => ⟨k, hk, ?_⟩⟩
        cases k with
        | true => exact ⟨F, S1, s.env, r, S', e, fun H' s' => g H' (s.trans s')⟩
        | false => exact ⟨F, S1, s.env, r, S', e, fun H' s' => g H' (s.trans s')⟩
def tIfT (t u w : TT) : TT := fun σ H Q => t σ H fun k H1 => if k = true then u σ H1 Q else w σ H1 Q
theorem pt_ifExp {cd : Expr} {tA tB' tC : TT} (hc : PT X cd tA) (ha : PT X a tB') (hb : PT X b tC) : PT X (.IfExp cd a b pos) (tIfT tA tB' tC) := by
  refine ⟨fun pins s σ H Q I h => ?_⟩
  refine isTrue_IfExp (thn (hc.run pins s σ H _ I h) fun d s1 ⟨H1, I1, q1⟩ => ?_)
  cases d with
  | true => exact ha.run pins s1 σ H1 Q I1 q1
  | false => exact hb.run pins s1 σ H1 Q I1 q1
theorem ifeT_ok {cd : Expr} (hc : PT X cd (tT c fz fc)) (ha : PT X a (tT c fz fa)) (hb : PT X b (tT c fz fb)) :
    PT X (.IfExp cd a b pos) (tT c fz fun S => bindR (fc S) fun x S => (truD x).bind fun k => if k then fa S else fb S) :=
  PT.of (pt_ifExp hc ha hb) fun σ H Q ⟨F, S, I, f⟩ => by
    refine ⟨F, S, I, (FolT.bind (k := fun x k S => if k then fa S else fb S) f).mono fun k H1 ⟨d, S1, e, s1, f1⟩ => ?_⟩
    cases k with
    | true => exact ⟨F, S1, s1.env, f1⟩
    | false => exact ⟨F, S1, s1.env, f1⟩

/-! ### slices, calls -/
def tO (c : Ct) (fz : Bool) (f : St' → Option (Res × St')) : TO := fun σ H Q => ∃ F S, EnvR c F σ H S ∧ ∃ r S', f S = some (r, S') ∧ ∀ H', Stp c F σ fz H S H' S' → match r with
  | .val d => ∃ o, partOf d = some o ∧ Q o H'
  | .exc x d => ∀ cls dx, XRep c.pa (Bad F σ S'.env) H' cls dx x d → c.xe cls dx H'
theorem partNo_ok : PO X none (tO c fz fun S => some (.val .non, S)) := PO.of po_none fun σ H Q ⟨F, S, I, r, S', e, g⟩ => by
  cases e
  obtain ⟨o, e, q⟩ := g H (Stp.refl I)
  cases e
  exact q
theorem partSo_ok (ha : PE X a (tE c fz true fa)) : PO X (some a) (tO c fz fun S => bindR (fa S) fun x S => (intOf x).bind fun i => some (.val (.int i), S)) :=
  PO.of (po_some ha) fun σ H Q ⟨F, S, I, r, S', e, g⟩ => by
    refine ⟨F, S, I, ?_⟩
    dsimp only at e
    generalize fa S = o at e
    cases o with
    | none => cases e
    | some p =>
      obtain ⟨r1, S1⟩ := p
      cases r1 with
      | exc y d =>
        cases e
        exact ⟨.exc y d, _, rfl, fun H1 s => g H1 s⟩
      | val d =>
        cases d with
        | int i =>
          cases e
          refine ⟨.val (.int i), _, rfl, fun H1 s v hv => ?_⟩
          obtain ⟨o, e, q⟩ := g H1 s
          cases e
          have hx := hv.b.int
          subst hx
          exact ⟨i, rfl, q⟩
        | _ => cases e
theorem FolO.bind {Q : VK} {x : Option (Res × St')} {k : Option Int → St' → Option (Res × St')} (h : Fol c F σ fz bo H S (bindR x fun d S => (partOf d).bind fun o => k o S) Q) :
    ∃ r S', x = some (r, S') ∧ ∀ H', Stp c F σ fz H S H' S' → match (generalizing := false) r with
  | .val d => ∃ o, partOf d = some o ∧ Fol c F σ fz bo H' S' (k o S') Q
  | .exc x d => ∀ cls dx, XRep c.pa (Bad F σ S'.env) H' cls dx x d → c.xe cls dx H' := by
  obtain ⟨r, S', e, g⟩ := h
  cases x with
  | none => cases e
  | some p =>
    obtain ⟨r1, S1⟩ := p
    cases r1 with
    | exc y d =>
      cases e
      exact ⟨.exc y d, _, rfl, fun H1 s => g H1 s⟩
    | val d =>
      obtain ⟨o, hk, e⟩ := Option.bind_eq_some_iff.mp (show (partOf d).bind (fun o => k o S1) = some (r, S') from e)
      exact ⟨.val d, S1, rfl, fun H1 s => ⟨o, hk, r, S', e, fun H' s' => g H' (s.trans s')⟩⟩
theorem slc_ok {lo hi : Option Expr} {p2 : Pos} {fl fh : St' → Option (Res × St')} (ha : PE X a (tE c fz true fa)) (hl : PO X lo (tO c fz fl)) (hh : PO X hi (tO c fz fh)) :
    PE X (.Subscript a (.Slice lo hi none p2) pos) (tE c fz bo fun S => bindR (fa S) fun x S => bindR (fl S) fun l S => (partOf l).bind fun l => bindR (fh S) fun h S => (partOf h).bind fun h => pureV (slcD x l h) S) :=
  PE.of (pe_slice slD ha hl hh) fun σ H Q ⟨F, S, I, f⟩ => by
    refine ⟨F, S, I, f.bind.mono fun x H1 ⟨d, S1, s1, r1, f1⟩ => ⟨F, S1, s1.env, ?_⟩⟩
    obtain ⟨r, S2, e, g⟩ := FolO.bind (k := fun l S => bindR (fh S) fun h S => (partOf h).bind fun h => pureV (slcD d l h) S) f1
    refine ⟨r, S2, e, fun H2 s2 => ?_⟩
    have q := g H2 s2
    cases r with
    | exc y d => exact q
    | val l =>
      obtain ⟨l', e1, f2⟩ := q
      refine ⟨l', e1, F, S2, s2.env, ?_⟩
      obtain ⟨r, S3, e, g⟩ := FolO.bind (k := fun h S => pureV (slcD d l' h) S) f2
      refine ⟨r, S3, e, fun H3 s3 => ?_⟩
      have q := g H3 s3
      cases r with
      | exc y d => exact q
      | val h =>
        obtain ⟨h', e2, f3⟩ := q
        refine ⟨h', e2, ?_⟩
        obtain ⟨z, e3, q⟩ := f3.pure s3.env
        exact ⟨c.pa, _, d, z, s3.env.badDom, ((r1.mv s2).mv s3).b, e3, q⟩
end
end Ev

set_option Elab.async false
set_option linter.all false
set_option maxRecDepth 100000
set_option maxHeartbeats 4000000
/-! Ev10: calls, methods, targets, iterables. -/
namespace Ev
open PySem PySem.Spec PyProof.Rows L2

/-- a def's promise -/
def spOf (F : Fn) : Sp := fun vs H Q E => ∃ pa B ds P r P', Dom B H ∧ RepL pa B H vs ds ∧ PotR pa B H P ∧ F ds P = some (r, P') ∧ ∀ H', StepE pa H H' → PotR pa B H' P' → match (generalizing := false) r with
  | .val d => ∀ v, Rep pa B H' v d → Q v H'
  | .exc x d => ∀ cls dx, XRep pa B H' cls dx x d → E cls dx H'
def CalOk (X : Cx) (xe : XK) (f : Str) (F : Fn) : Prop := ∃ (CX : CXT) (k : Nat) (a : Addr) (fd : FuncData) (ps : List Str), FnG X.prog X.w X.K X.mg X.base CX k a fd ps (spOf F) ∧ Room k X.A ∧ X.A.guards = some [] ∧ X.mg f = some (.ref a) ∧
  PySem.W.keepIn X.K (.ref a) = true ∧ Binds X.K fd ps [] ∧ Passes CX X xe ∧ ∀ outer H s e s', ¬ CX outer H s (fun _ _ _ => False) e s'

section
variable {c : Ct} {F : AP} {σ : L2.St} {H H' H'' : Hp} {S S' S'' : St'} {fz bo : Bool}
variable {X : Cx} {a b e : Expr} {pos p : Pos} {fa fb fc : St' → Option (Res × St')} {Q : VK}

theorem bi_ok (hc : X.calm = true) (hu : X.A.units + 64 < cLine) (gd : X.A.guards = some []) (b : BI) {es : List Expr} {f : St' → Option (RL × St')} (hg : Gl X b.nm) (hm : X.mg b.nm = none) (ha : PA X (e :: es) (tA c fz true f))
    (he : starEach (e :: es) X.env = (false, eval e X.env) :: starEach es X.env) (hpl : (backTo pos (starEach es X.env)).any (·.1) = false) :
    PE X (.Call (.Name b.nm p) (e :: es) [] pos) (tE c fz bo fun S => bindL (f S) fun ds S => pureV (b.fn ds) S) :=
  PE.of (pe_bi hc hu gd b hg hm ha he hpl) fun σ H Q ⟨F, S, I, f1⟩ => by
    refine ⟨F, S, I, ?_⟩
    obtain ⟨r, S', e, g⟩ := Fol.bindL (b := true) f1
    refine ⟨r, S', e, fun H1 s => ?_⟩
    have q := g H1 s
    cases r with
    | exc y d => exact q
    | vals ds =>
      intro vs hv
      obtain ⟨ds', S1, s1, hv1, f2⟩ := q vs hv
      obtain ⟨z, e, q⟩ := f2.pure s1.env
      exact ⟨c.pa, _, ds', z, s1.env.badDom, hv1.b, e, q⟩
theorem sset_ok (hc : X.calm = true) {p2 q : Pos} (hg : Gl X "sorted") (hm : X.mg "sorted" = none) (hg2 : Gl X "set") (hm2 : X.mg "set" = none) (ha : PE X a (tE c fz true fa)) (hs : starEach [a] X.env = [(false, eval a X.env)]) :
    PE X (.Call (.Name "sorted" p) [.Call (.Name "set" p2) [a] [] q] [] pos) (tE c fz bo fun S => bindR (fa S) fun x S => pureV (ssetF [x]) S) :=
  PE.of (pe_sset hc hg hm hg2 hm2 ha (fun σ H Q Q' k ⟨F, S, I, f⟩ => ⟨F, S, I, f.mono k⟩) hs) fun σ H Q ⟨F, S, I, f⟩ => by
    refine ⟨F, S, I, f.bind.mono fun x H1 ⟨d, S1, s1, r1, f1⟩ => ?_⟩
    obtain ⟨z, e, q⟩ := f1.pure s1.env
    exact ⟨c.pa, _, [d], z, s1.env.badDom, .cons r1.b .nil, e, q⟩
theorem isi_ok (t : Ty) {q : Pos} (hg : Gl X "isinstance") (hm : X.mg "isinstance" = none) (hg2 : Gl X t.nm) (hm2 : X.mg t.nm = none) (ha : PE X a (tE c fz true fa))
    (hs : starEach [a, .Name t.nm q] X.env = (false, eval a X.env) :: starEach [.Name t.nm q] X.env) :
    PE X (.Call (.Name "isinstance" p) [a, .Name t.nm q] [] pos) (tE c fz bo fun S => bindR (fa S) fun x S => pureV ((isiD t x).map D.bl) S) := by
  have ht : PE X (.Name t.nm q) (tC (.ty t.nm)) := by
    cases t <;> exact pe_bltn (v := .ty _) hg2 hm2 (by decide +kernel) rfl (by decide) (by decide)
  have hp : PA X [a, .Name t.nm q] (tCons (tE c fz true fa) (tCons (tC (.ty t.nm)) tNil)) := pa_cons ha (pa_cons ht pa_nil (by rfl)) hs
  have hpl : (backTo pos (starEach [.Name t.nm q] X.env)).any (·.1) = false := by rfl
  refine PE.of (pe_callB (t := tCons (tE c fz true fa) (tCons (tC (.ty t.nm)) tNil)) call_isi hg hm (by decide +kernel) hp (by decide) (by decide) hs hpl) fun σ H Q ⟨F, S, I, f⟩ => ?_
  refine ⟨F, S, I, f.bind.mono fun x H1 ⟨d, S1, s1, r1, f1⟩ => ?_⟩
  obtain ⟨z, e, q⟩ := f1.pure s1.env
  cases hk : isiD t d with
  | none =>
    rw [hk] at e
    cases e
  | some k =>
    rw [hk] at e
    cases e
    exact isi_read r1.b hk (q _ _ (Ext.refl _) (.bl _))
theorem EnvR.sub (I : EnvR c F σ H S) (s : StepE c.pa H H') {P : Pt} {B : AP} (hp : PotR c.pa B H' P) : Stp c F σ fz H S H' ⟨S.env, P⟩ :=
  ⟨I.step s fun q e => ⟨(I.pot q e).1, (hp q e).2⟩, s, fun _ h => h, fun _ _ h => h⟩
theorem cal_read {f : St' → Option (RL × St')} {G : Fn} (h : tE c fz bo (fun S => bindL (f S) fun ds S => (some G).bind fun g => (g ds S.pot).map fun (r, P) => (r, ⟨S.env, P⟩)) σ H Q) : tCall (spOf G) [] c.xe (tA c fz false f) σ H Q := by
  obtain ⟨F, S, I, f1⟩ := h
  refine ⟨F, S, I, ?_⟩
  obtain ⟨r, S', e, g⟩ := Fol.bindL (b := false) f1
  refine ⟨r, S', e, fun H1 s => ?_⟩
  have q := g H1 s
  cases r with
  | exc y d => exact q
  | vals ds =>
    intro vs hv
    obtain ⟨ds', S1, s1, hv1, r2, S2, e2, g2⟩ := q vs hv
    rw [List.append_nil]
    have e2 : (G ds' S1.pot).map (fun (x : Res × Pt) => (x.1, (⟨S1.env, x.2⟩ : St'))) = some (r2, S2) := e2
    cases hG : G ds' S1.pot with
    | none =>
      rw [hG] at e2
      cases e2
    | some y =>
      obtain ⟨r3, P3⟩ := y
      rw [hG] at e2
      cases e2
      refine ⟨c.pa, Bad F σ S1.env, ds', S1.pot, r3, P3, s1.env.badDom, hv1.rep, fun q e => ⟨.inl (s1.env.pot q e).1, (s1.env.pot q e).2⟩, hG, fun H2 s2 p2 => ?_⟩
      have q := g2 H2 (s1.env.sub s2 p2)
      cases r3 with
      | val d => exact fun v hv => q v (.inl hv)
      | exc y d => exact q
theorem cal_ok {f : Str} {G : Fn} {es : List Expr} {fs : St' → Option (RL × St')} (h : CalOk X c.xe f G) (hg : Gl X f) (hdb : (f == ("__debug__" : Str)) = false) (ha : PA X (e :: es) (tA c fz false fs))
    (he : starEach (e :: es) X.env = (false, eval e X.env) :: starEach es X.env) (hpl : (backTo pos (starEach es X.env)).any (·.1) = false) :
    PE X (.Call (.Name f p) (e :: es) [] pos) (tE c fz bo fun S => bindL (fs S) fun ds S => (some G).bind fun g => (g ds S.pot).map fun (r, P) => (r, ⟨S.env, P⟩)) := by
  obtain ⟨CX, k, a, fd, ps, F, hr, gd, hm, hk, hb, hx, _⟩ := h
  exact PE.of (pe_callG F hr gd hg hm hk hb hx ha hdb ⟨_, _, rfl, he, hpl⟩) fun σ H Q q => cal_read q
theorem cal0_ok {f : Str} {G : Fn} {fs : St' → Option (RL × St')} (h : CalOk X c.xe f G) (hg : Gl X f) (hdb : (f == ("__debug__" : Str)) = false) (hfs : ∀ S, fs S = some (.vals [], S)) :
    PE X (.Call (.Name f p) [] [] pos) (tE c fz bo fun S => bindL (fs S) fun ds S => (some G).bind fun g => (g ds S.pot).map fun (r, P) => (r, ⟨S.env, P⟩)) := by
  obtain ⟨CX, k, a, fd, ps, F, hr, gd, hm, hk, hb, hx, _⟩ := h
  refine PE.of (pe_callG0 F hr gd hg hm hk hb hx hdb) fun σ H Q q => ?_
  obtain ⟨F, S, I, r, S', e, g⟩ := cal_read q
  rw [hfs] at e
  cases e
  exact g H (Stp.refl I) [] .nil

/-! ### a method: x.index(y) -/
/-- .. with what was evaluated -/
theorem Fol.bindEq {x : Option (Res × St')} {b : Bool} {k : D → St' → Option (Res × St')} (h : Fol c F σ fz bo H S (bindR x k) Q) :
    Fol c F σ fz b H S x fun v H1 => ∃ d S1, x = some (.val d, S1) ∧ Stp c F σ fz H S H1 S1 ∧ RR b c.pa F (Bad F σ S1.env) H1 v d ∧ Fol c F σ fz bo H1 S1 (k d S1) Q := by
  obtain ⟨r, S', e, g⟩ := h
  cases x with
  | none => cases e
  | some p =>
    obtain ⟨r1, S1⟩ := p
    cases r1 with
    | val d => exact ⟨.val d, S1, rfl, fun H1 s v hv => ⟨d, S1, rfl, s, hv, r, S', e, fun H' s' => g H' (s.trans s')⟩⟩
    | exc y d =>
      cases (show some (Res.exc y d, S1) = some (r, S') from e)
      exact ⟨.exc y d, _, rfl, fun H1 s => g H1 s⟩
def tBX (r : V → List V → Hp → VK → Prop) (to : TE) (t : TA) : TE := fun σ H Q => to σ H fun x H1 => (∃ a o ys, x = V.ref a ∧ H1 a = some (.frz o (.tup ys)) ∧ o.dict = none) ∧ t σ H1 fun xs H2 => r x xs H2 Q
theorem pe_bx {o e : Expr} {es : List Expr} {to : TE} {t : TA} {name : Str} {apos cpos : Pos} {id : String} {r : V → List V → Hp → VK → Prop} (pa : PlainAttrs "tuple") (slot : Slot "tuple" name id) (hty : typeOf (.builtin id) = pure (.type "method_descriptor")) (hm : MtR X id r) (ho : PE X o to) (ha : PA X (e :: es) t)
    (hbase : attributeBase o name X.env (eval o X.env) = eval o X.env)
    (hfew : ((backTo cpos (starEach (e :: es) X.env)).all (fun x => !x.1) && (backToKw cpos (keywordEach [] X.env)).all (fun x => x.1.isSome)
      && decide ((e :: es).length + ([] : List Keyword).length + (if ([] : List Keyword).isEmpty then 0 else 1) < 30)) = true)
    (hline : (apos.endLine == cpos.line) = true) (hs : starEach (e :: es) X.env = (false, eval e X.env) :: starEach es X.env) (hplain : (backTo cpos (starEach es X.env)).any (·.1) = false) :
    PE X (.Call (.Attribute o name apos) (e :: es) [] cpos) (tBX r to t) := by
  refine ⟨fun pins s σ H Q I h => ?_⟩
  refine wpAny_Call_method_late hbase hfew hline rfl (thn (ho.run pins s σ H _ I h) fun v s1 ⟨x, H1, I1, r1, ⟨a, ob, ys, ex, hx, hd⟩, q1⟩ => ?_)
  subst ex
  cases (show v = Value.ref a from r1)
  obtain ⟨g1, g2, its, g3, o', g4, g5, g6⟩ := I1.hok a _ hx
  have h1 : s1.TypeIs (.ref a) "tuple" := ⟨o', g4, g5⟩
  refine ⟨"tuple", id, pa, slot, hty, h1, fun b eb => ?_, ?_⟩
  · cases eb
    exact ⟨ob, g1, hd⟩
  have hA := ha.run cpos pins s1 σ H1 _ I1 q1
  rw [hs] at hA ⊢
  refine Calls.callWith_builtin (by show (false || (backTo cpos (starEach es X.env)).any (·.1)) = false; rw [hplain] <;> rfl) (Calls.evalArgs_plain ?_)
  exact thn hA fun us s2 ⟨vs, H2, I2, r2, q2⟩ => hm pins s2 σ H2 _ vs _ us Q I2 r1 r2 q2
theorem mix_ok {apos cpos : Pos} (ha : PE X a (tE c fz true fa)) (hb : PE X b (tE c fz true fb)) (hbase : attributeBase a "index" X.env (eval a X.env) = eval a X.env) (hline : (apos.endLine == cpos.line) = true)
    (hs : starEach [b] X.env = (false, eval b X.env) :: starEach [] X.env) :
    PE X (.Call (.Attribute a "index" apos) [b] [] cpos) (tE c fz bo fun S => bindR (fa S) fun x S => if isMix x then bindR (fb S) fun y S => pureV (idxOfF x [y]) S else none) := by
  have hfew : ((backTo cpos (starEach [b] X.env)).all (fun x => !x.1) && (backToKw cpos (keywordEach [] X.env)).all (fun x => x.1.isSome)
      && decide ([b].length + ([] : List Keyword).length + (if ([] : List Keyword).isEmpty then 0 else 1) < 30)) = true := by
    rw [hs]
    rfl
  have p1 := pe_bm (X := X) (name := "index") (apos := apos) (cpos := cpos) PySem.F.plainAttrs_list PySem.F.slot_list_index PySem.F.type_list_index mt_listIndex ha (pa_cons hb pa_nil hs) hbase hfew hline hs (by rfl)
  have p2 := pe_bx (X := X) (name := "index") (apos := apos) (cpos := cpos) PySem.F.plainAttrs_tuple PySem.F.slot_tuple_index PySem.F.type_tuple_index mt_tupleIndex ha (pa_cons hb pa_nil hs) hbase hfew hline hs (by rfl)
  refine PE.of (PE.or p1 p2) fun σ H Q ⟨F, S, I, f⟩ => ?_
  by_cases hl : ∃ ds S1, fa S = some (.val (.lst ds), S1)
  · obtain ⟨ds, S0, e0⟩ := hl
    refine .inl ⟨F, S, I, f.bindEq.mono fun x H1 ⟨d, S1, ed, s1, r1, f1⟩ => ?_⟩
    rw [e0] at ed
    cases ed
    obtain ⟨p, xs, ex, hx, hr⟩ := r1.b.lst
    subst ex
    refine ⟨.inl ⟨rfl, xs, SqL.of hx⟩, F, S0, s1.env, f1.bind.mono fun y H2 ⟨d2, S2, s2, r2, f2⟩ => ?_⟩
    obtain ⟨z, e, q⟩ := f2.pure s2.env
    obtain ⟨p', xs', ex', hx', _⟩ := (r1.mv s2).b.lst
    cases ex'
    exact ⟨⟨p, xs', rfl, hx'⟩, c.pa, _, _, [d2], z, s2.env.badDom, (r1.mv s2).b, .cons r2.b .nil, e, q⟩
  · refine .inr ⟨F, S, I, f.bindEq.mono fun x H1 ⟨d, S1, ed, s1, r1, f1⟩ => ?_⟩
    have hd : ∃ ds, d = .xt ds := by
      obtain ⟨r, S', e, g⟩ := f1
      cases d with
      | xt ds => exact ⟨ds, rfl⟩
      | lst ds => exact absurd ⟨ds, S1, ed⟩ hl
      | _ => cases e
    obtain ⟨ds, rfl⟩ := hd
    obtain ⟨p, o, xs, ex, hx, hd, _, hr⟩ := r1.b.xt
    subst ex
    refine ⟨⟨p, o, xs, rfl, hx, hd⟩, F, S1, s1.env, f1.bind.mono fun y H2 ⟨d2, S2, s2, r2, f2⟩ => ?_⟩
    obtain ⟨z, e, q⟩ := f2.pure s2.env
    obtain ⟨p', o', xs', ex', hx', _⟩ := (r1.mv s2).b.xt
    cases ex'
    exact ⟨⟨p, o', xs', rfl, hx'⟩, c.pa, _, _, [d2], z, s2.env.badDom, (r1.mv s2).b, .cons r2.b .nil, e, q⟩
end
end Ev

set_option Elab.async false
set_option linter.all false
set_option maxRecDepth 100000
set_option maxHeartbeats 4000000
/-! Ev11: targets, iterables, comprehensions. -/
namespace Ev
open PySem PySem.Spec PyProof.Rows L2
section
variable {c : Ct} {F : AP} {σ : L2.St} {H H' H'' : Hp} {S S' S'' : St'} {fz bo : Bool}
variable {X : Cx} {a b e : Expr} {pos p : Pos} {fa fb fc : St' → Option (Res × St')} {Q : VK}

/-! ### targets -/
mutual
def T.slots : T → List Nat
  | .nm i => [i]
  | .tup ts => Ts.slots ts
def Ts.slots : Ts → List Nat
  | .nil => []
  | .cons t r => t.slots ++ r.slots
end
/-- a target's step: the slots hold the new values; no other list is owned; the other slots stay -/
structure TgtR (c : Ct) (F : AP) (sl : List Nat) (σ : L2.St) (H : Hp) (S : St') (σ' : L2.St) (env' : List SV) : Prop where
  env : EnvR c F σ' H ⟨env', S.pot⟩
  own : ∀ a, Own σ' env' a → Own σ S.env a
  same : ∀ vs, (∀ i ∈ sl, i ∈ vs) → wipe σ' vs = wipe σ vs
  no : ∀ i, notOwn S.env i = true → notOwn env' i = true
  back : (∀ i ∈ sl, notOwn S.env i = true) → ∀ a, Own σ S.env a → Own σ' env' a
theorem wipe_get {vs : List Nat} {σ : L2.St} {j : Nat} : (wipe σ vs)[j]? = if j ∈ vs ∧ j < σ.length then some none else σ[j]? := by
  induction vs with
  | nil => simp [wipe]
  | cons v vs ih =>
    unfold wipe
    by_cases e : v = j
    · subst e
      by_cases hv : v < σ.length
      · rw [List.getElem?_set_self (by rw [wipe_length]; exact hv), if_pos ⟨by simp, hv⟩]
      · rw [List.getElem?_eq_none (by rw [List.length_set, wipe_length]; omega), if_neg (fun z => hv z.2), List.getElem?_eq_none (by omega)]
    · rw [List.getElem?_set_ne e, ih]
      have : (j ∈ v :: vs) ↔ j ∈ vs := ⟨fun z => (List.mem_cons.mp z).elim (fun q => absurd q.symm e) id, List.mem_cons_of_mem _⟩
      simp only [this]
theorem wipe_set {σ : L2.St} {i : Nat} {x : V} {vs : List Nat} (h : i ∈ vs) : wipe (σ.set i (some x)) vs = wipe σ vs := by
  refine List.ext_getElem? fun j => ?_
  rw [wipe_get, wipe_get, List.length_set]
  by_cases hj : j ∈ vs ∧ j < σ.length
  · rw [if_pos hj, if_pos hj]
  · rw [if_neg hj, if_neg hj]
    by_cases e : i = j
    · subst e
      have : ¬ i < σ.length := fun z => hj ⟨h, z⟩
      rw [List.getElem?_eq_none (by simpa using this), List.getElem?_eq_none (by simpa using this)]
    · rw [List.getElem?_set_ne e]
theorem wipe_wipe {σ : L2.St} {vs : List Nat} : wipe (wipe σ vs) vs = wipe σ vs := by
  refine List.ext_getElem? fun j => ?_
  rw [wipe_get, wipe_get, wipe_length]
  split <;> rfl
theorem setVal (I : EnvR c F σ H S) {i : Nat} {v : V} {d : D} (hi : i < S.env.length) (hv : Rep c.pa (Bad F σ S.env) H v d) : TgtR c F [i] σ H S (σ.set i (some v)) (S.env.set i (.val d)) := by
  have less : ∀ a, Own (σ.set i (some v)) (S.env.set i (.val d)) a → Own σ S.env a := fun a ⟨j, es, ⟨e1, w⟩, e2⟩ => by
    rcases set_get e1 with ⟨_, z⟩ | ⟨n, z⟩
    · rw [← z] at w
      cases w
    · rw [List.getElem?_set_ne n] at e2
      exact ⟨j, es, ⟨z, w⟩, e2⟩
  have kp : Keep (Bad F σ S.env) (Bad F (σ.set i (some v)) (S.env.set i (.val d))) H H := Keep.less fun a z => z.elim .inl fun w => .inr (less a w)
  refine ⟨⟨by simp [I.len], I.dom, I.pot, fun j d' ej => ?_, fun j es ⟨ej, w⟩ => ?_, fun j k q es fs ⟨ej, w⟩ ⟨ek, w'⟩ e1 e2 => ?_, I.keep⟩, less, fun vs h => wipe_set (h i (by simp)), fun j hj => ?_, fun hn a ⟨j, es, ⟨e1, w⟩, e2⟩ => ?_⟩
  · rcases set_get ej with ⟨z1, z2⟩ | ⟨n, z⟩
    · cases z2
      subst z1
      exact ⟨v, List.getElem?_set_self (by rw [I.len]; exact hi), hv.kp kp⟩
    · obtain ⟨w, g1, g2⟩ := I.val j d' z
      exact ⟨w, by rw [List.getElem?_set_ne n]; exact g1, g2.kp kp⟩
  · rcases set_get ej with ⟨z1, z2⟩ | ⟨n, z⟩
    · rw [← z2] at w
      cases w
    · obtain ⟨q, g1, g2, g4, g5⟩ := I.ow j es ⟨z, w⟩
      exact ⟨q, by rw [List.getElem?_set_ne n]; exact g1, g2.mv kp fun _ z => z, g4, g5⟩
  · rcases set_get ej with ⟨z1, z2⟩ | ⟨n, z⟩
    · rw [← z2] at w
      cases w
    · rcases set_get ek with ⟨z1, z2⟩ | ⟨n', z'⟩
      · rw [← z2] at w'
        cases w'
      · rw [List.getElem?_set_ne n] at e1
        rw [List.getElem?_set_ne n'] at e2
        exact I.inj j k q es fs ⟨z, w⟩ ⟨z', w'⟩ e1 e2
  · unfold notOwn at hj ⊢
    by_cases e : i = j
    · subst e
      rw [List.getElem?_set_self hi]
    · rw [List.getElem?_set_ne e]
      exact hj
  · have n : i ≠ j := fun e => by
      have := hn i (by simp)
      unfold notOwn at this
      rw [e, e1] at this
      cases es <;> first | (cases w; done) | (cases this; done)
    exact ⟨j, es, ⟨by rw [List.getElem?_set_ne n]; exact e1, w⟩, by rw [List.getElem?_set_ne n]; exact e2⟩
theorem TgtR.trans {sl sl' : List Nat} {σ' σ'' : L2.St} {env' env'' : List SV} (h : TgtR c F sl σ H S σ' env') (h' : TgtR c F sl' σ' H ⟨env', S.pot⟩ σ'' env'') : TgtR c F (sl ++ sl') σ H S σ'' env'' :=
  ⟨h'.env, fun a z => h.own a (h'.own a z), fun vs z => (h'.same vs fun i hi => z i (List.mem_append_right _ hi)).trans (h.same vs fun i hi => z i (List.mem_append_left _ hi)),
    fun i z => h'.no i (h.no i z), fun z a o => h'.back (fun i hi => h.no i (z i (List.mem_append_right _ hi))) a (h.back (fun i hi => z i (List.mem_append_left _ hi)) a o)⟩
theorem TgtR.kp {sl : List Nat} {σ' : L2.St} {env' : List SV} (h : TgtR c F sl σ H S σ' env') : Keep (Bad F σ S.env) (Bad F σ' env') H H := Keep.less fun a z => z.elim .inl fun w => .inr (h.own a w)
def tG (c : Ct) (t : T) : TG := fun v σ H K => ∃ F S d env', EnvR c F σ H S ∧ Rep c.pa (Bad F σ S.env) H v d ∧ bindT t d S.env = some env' ∧ ∀ σ', TgtR c F t.slots σ H S σ' env' → K σ' H
def tGs (c : Ct) (ts : Ts) : TGs := fun vs σ H K => ∃ F S ds env', EnvR c F σ H S ∧ RepL c.pa (Bad F σ S.env) H vs ds ∧ bindTs ts ds S.env = some env' ∧ ∀ σ', TgtR c F ts.slots σ H S σ' env' → K σ' H
theorem PG.of {t t' : TG} (h : PG X e t) (w : ∀ v σ H K, t' v σ H K → t v σ H K) : PG X e t' := ⟨fun pins s σ H v u Q I r q => h.run pins s σ H v u Q I r (w v σ H Q q)⟩
theorem PGs.of {es : List Expr} {t t' : TGs} (h : PGs X es t) (w : ∀ v σ H K, t' v σ H K → t v σ H K) : PGs X es t' := ⟨fun pins s σ H v u Q I r q => h.run pins s σ H v u Q I r (w v σ H Q q)⟩
theorem nm_ok {i : Nat} {x : Str} (hN : X.N.Nodup) (hi : X.N[i]? = some x) (hx : Loc X.env.scope x) (hf : X.fn x = true ∨ X.env.scope.names.lookup x = some .local) : PG X (.Name x pos) (tG c (.nm i)) :=
  PG.of (pg_name hN hi hx hf) fun v σ H K ⟨F, S, d, env', I, hv, e, k⟩ => by
    unfold bindT at e
    split at e
    · rename_i hl
      cases e
      exact k _ (setVal I hl hv)
    · cases e
theorem tsNil_ok : PGs X [] (tGs c .nil) := PGs.of pgs_nil fun vs σ H K ⟨F, S, ds, env', I, hv, e, k⟩ => by
  cases ds with
  | nil =>
    cases hv
    unfold bindTs at e
    cases e
    exact ⟨rfl, k σ ⟨I, fun _ h => h, fun _ _ => rfl, fun _ h => h, fun _ _ h => h⟩⟩
  | cons d ds =>
    unfold bindTs at e
    cases e
theorem tsCons_ok {es : List Expr} {t : T} {r : Ts} (h1 : PG X e (tG c t)) (h2 : PGs X es (tGs c r)) (hs : (assignEach (e :: es) X.env).map (·.2) = assign e X.env :: (assignEach es X.env).map (·.2)) : PGs X (e :: es) (tGs c (.cons t r)) :=
  PGs.of (pgs_cons h1 h2 hs) fun vs σ H K ⟨F, S, ds, env', I, hv, e, k⟩ => by
    cases ds with
    | nil =>
      unfold bindTs at e
      cases e
    | cons d ds =>
      unfold bindTs at e
      obtain ⟨env1, e1, e2⟩ := Option.bind_eq_some_iff.mp e
      cases hv with
      | cons hv1 hv2 =>
        exact ⟨_, _, rfl, F, S, d, env1, I, hv1, e1, fun σ1 t1 => ⟨F, ⟨env1, S.pot⟩, ds, env', t1.env, hv2.kp t1.kp, e2, fun σ2 t2 => k σ2 (t1.trans t2)⟩⟩
theorem tsLen : ∀ {ts : Ts} {ds : List D} {env env' : List SV}, bindTs ts ds env = some env' → ∀ {n : Nat}, Ts.slots ts = Ts.slots ts → ds.length = ds.length := fun _ _ _ => rfl
def Ts.len : Ts → Nat
  | .nil => 0
  | .cons _ r => r.len + 1
theorem bindTs_len : ∀ {ts : Ts} {ds : List D} {env env' : List SV}, bindTs ts ds env = some env' → ds.length = ts.len
  | .nil, [], _, _, _ => rfl
  | .nil, _ :: _, _, _, h => by unfold bindTs at h; cases h
  | .cons _ _, [], _, _, h => by unfold bindTs at h; cases h
  | .cons t r, d :: ds, _, _, h => by
    unfold bindTs at h
    obtain ⟨env1, e1, e2⟩ := Option.bind_eq_some_iff.mp h
    rw [List.length_cons, bindTs_len e2]
    rfl
theorem ttup_ok {es : List Expr} {k : Nat} {ts : Ts} (hc : X.calm = true) (h : PGs X es (tGs c ts)) (hn : (assignEach es X.env).length = ts.len) (hst : (assignEach es X.env).findIdx? (·.1) = none) : PG X (.Tuple es k pos) (tG c (.tup ts)) :=
  PG.of (pg_tup hc h hn hst) fun v σ H K ⟨F, S, d, env', I, hv, e, k⟩ => by
    cases d with
    | tup ds =>
      unfold bindT at e
      cases hv with
      | tup h1 h2 h3 => exact ⟨_, _, rfl, SqT.of h1, by rw [h3.length]; exact bindTs_len e, F, S, ds, env', I, h3, e, k⟩
    | _ =>
      unfold bindT at e
      cases e

/-! ### iterables -/
def ItOk (pa : Option Addr) (B : AP) (bo : Bool) (J : It) (H : Hp) (ds : List D) : Prop := ∃ KS : AP, (∀ a, KS a → pa ≠ some a ∧ H a ≠ none ∧ (bo = false → ¬ B a)) ∧
  ∀ (i : Nat) (H2 : Hp) (B2 : AP), Keep B B2 H H2 → Dom B2 H2 → (∀ a, KS a → H2 a = H a) →
    (i < ds.length → J.go i H2) ∧ (ds.length ≤ i → J.stop i H2) ∧ ∀ x H3, J.yld i H2 x H3 → Ext H2 H3 ∧ ∀ d, ds[i]? = some d → Rep pa B2 H3 x d
def tI (c : Ct) (fz bo : Bool) (f : St' → Option (List D × St')) : TI := fun σ H R => ∃ F S, EnvR c F σ H S ∧ ∃ ds S', f S = some (ds, S') ∧ ∀ J H', Stp c F σ fz H S H' S' → ItOk c.pa (Bad F σ S'.env) bo J H' ds → R J H'
theorem RR.nopot {v : V} {d : D} (I : EnvR c F σ H S) {a : Addr} {xs : List V} {o : HO} (h : RR bo c.pa F (Bad F σ S.env) H v d) (hv : v = .ref a) (hd : d ≠ .pot ∧ ∀ b, d ≠ .opq b) : c.pa ≠ some a ∧ (bo = false → ¬ Bad F σ S.env a) := by
  subst hv
  rcases h with h | ⟨z, a', x, e1, e2, e3, e5⟩
  · cases h with
    | tup h1 n h2 => exact ⟨fun e => n (.inl (I.notpot e)), fun _ => n⟩
    | lst h1 n h2 => exact ⟨fun e => n (.inl (I.notpot e)), fun _ => n⟩
    | xt h1 h3 n h2 => exact ⟨fun e => n (.inl (I.notpot e)), fun _ => n⟩
    | pot e => exact absurd rfl hd.1
    | opq _ => exact absurd rfl (hd.2 _)
    | dct h1 h2 n h3 h4 => exact ⟨fun e => n (.inl (I.notpot e)), fun _ => n⟩
  · cases e1
    exact ⟨fun e => e5 (I.notpot e), fun e => by rw [e] at z; cases z⟩
theorem get_lt {ds : List D} {i : Nat} (h : i < ds.length) : ∃ d, ds[i]? = some d := ⟨ds[i], List.getElem?_eq_getElem h⟩
/-- at a list's or a tuple's address -/
theorem it_list {K : Frag} {v : V} {ds : List D} (I : EnvR c F σ H S) (h : RR bo c.pa F (Bad F σ S.env) H v (.lst ds)) : ∃ a xs, v = V.ref a ∧ SqL K H a xs ∧ ItOk c.pa (Bad F σ S.env) bo (Itl K a) H ds := by
  obtain ⟨a, xs, ev, hx, hr⟩ := h.b.lst
  refine ⟨a, xs, ev, SqL.of hx, fun b => b = a, fun b hb => ?_, fun i H2 B2 k hB same => ?_⟩
  · subst hb
    have q := h.nopot (xs := []) (o := .lst []) I ev ⟨(fun z => nomatch z), fun _ z => nomatch z⟩
    exact ⟨q.1, by rw [hx]; exact (fun z => nomatch z), q.2⟩
  · have h2 : H2 a = some (.lst xs) := (same a rfl).trans hx
    have hr2 := hr.kp k
    refine ⟨fun hi => ?_, fun hi => ⟨xs, SqL.of h2, by rw [hr.length]; exact hi⟩, fun x H3 y => ?_⟩
    · obtain ⟨d, hd⟩ := get_lt hi
      obtain ⟨w, g1, _⟩ := hr2.get hd
      exact ⟨xs, w, SqL.of h2, g1⟩
    · obtain ⟨e, y⟩ := y
      subst e
      refine ⟨Ext.refl _, fun d hd => ?_⟩
      obtain ⟨w, g1, g2⟩ := hr2.get hd
      have e2 := y xs (SqL.of h2)
      rw [g1] at e2
      cases e2
      exact g2
theorem it_at {K : Frag} {v : V} {d : D} {ds : List D} (I : EnvR c F σ H S) (h : RR bo c.pa F (Bad F σ S.env) H v d) (hd : tupOf d = some ds) : ∃ a xs o, v = V.ref a ∧ H a = some o ∧ (∀ H2 : Hp, H2 a = some o → SqT K H2 a xs) ∧ c.pa ≠ some a ∧ (bo = false → ¬ Bad F σ S.env a) ∧ RepL c.pa (Bad F σ S.env) H xs ds := by
  cases d with
  | tup es =>
    cases hd
    obtain ⟨a, xs, ev, hx, _, hr⟩ := h.b.tup
    have q := h.nopot (xs := []) (o := .lst []) I ev ⟨(fun z => nomatch z), fun _ z => nomatch z⟩
    exact ⟨a, xs, _, ev, hx, fun H2 h2 => SqT.of h2, q.1, q.2, hr⟩
  | xt es =>
    cases hd
    obtain ⟨a, o, xs, ev, hx, _, _, hr⟩ := h.b.xt
    have q := h.nopot (xs := []) (o := .lst []) I ev ⟨(fun z => nomatch z), fun _ z => nomatch z⟩
    exact ⟨a, xs, _, ev, hx, fun H2 h2 => .inl (.inr ⟨o, h2⟩), q.1, q.2, hr⟩
  | _ => cases hd
theorem it_tup {K : Frag} {v : V} {d : D} {ds : List D} (I : EnvR c F σ H S) (h : RR bo c.pa F (Bad F σ S.env) H v d) (hd : tupOf d = some ds) : ∃ a xs, v = V.ref a ∧ SqT K H a xs ∧ ItOk c.pa (Bad F σ S.env) bo (Itt K a) H ds := by
  obtain ⟨a, xs, o, ev, hx, hq, np, nb, hr⟩ := it_at (K := K) I h hd
  refine ⟨a, xs, ev, hq H hx, fun b => b = a, fun b hb => ?_, fun i H2 B2 k hB same => ?_⟩
  · subst hb
    exact ⟨np, by rw [hx]; exact (fun z => nomatch z), nb⟩
  · have h2 : H2 a = some o := (same a rfl).trans hx
    have hr2 := hr.kp k
    refine ⟨fun hi => ?_, fun hi => ⟨xs, hq H2 h2, by rw [hr.length]; exact hi⟩, fun x H3 y => ?_⟩
    · obtain ⟨d, hd⟩ := get_lt hi
      obtain ⟨w, g1, _⟩ := hr2.get hd
      exact ⟨xs, w, hq _ h2, g1⟩
    · obtain ⟨e, y⟩ := y
      subst e
      refine ⟨Ext.refl _, fun d hd => ?_⟩
      obtain ⟨w, g1, g2⟩ := hr2.get hd
      have e2 := y xs (hq _ h2)
      rw [g1] at e2
      cases e2
      exact g2
theorem seqOf_cases {d : D} {ds : List D} (h : seqOf d = some ds) : d = .lst ds ∨ tupOf d = some ds := by
  cases d with
  | lst es => cases h; exact .inl rfl
  | tup es => exact .inr h
  | xt es => exact .inr h
  | _ => cases h
/-- a value that was evaluated, then used -/
theorem tI_of {t : TI} {f : St' → Option (List D × St')} {fa : St' → Option (Res × St')} {k : D → Option (List D)} (hf : ∀ S ds S', f S = some (ds, S') → ∃ d, fa S = some (.val d, S') ∧ k d = some ds) {R : It → Hp → Prop}
    (h : tI c fz bo f σ H R) : ∃ F S, EnvR c F σ H S ∧ ∃ d ds S', fa S = some (.val d, S') ∧ k d = some ds ∧ ∀ J H', Stp c F σ fz H S H' S' → ItOk c.pa (Bad F σ S'.env) bo J H' ds → R J H' := by
  obtain ⟨F, S, I, ds, S', e, g⟩ := h
  obtain ⟨d, e1, e2⟩ := hf S ds S' e
  exact ⟨F, S, I, d, ds, S', e1, e2, g⟩
theorem bind_val {o : Option (Res × St')} {ds : List D} {k : D → Option (List D)} (h : (o.bind fun (r, S) => (match r with
    | .val d => (k d).map fun xs => (xs, S)
    | .exc _ _ => none)) = some (ds, S')) : ∃ d, o = some (.val d, S') ∧ k d = some ds := by
  cases o with
  | none => cases h
  | some y =>
    obtain ⟨r, S1⟩ := y
    cases r with
    | exc y d => cases h
    | val d =>
      have h : (k d).map (fun xs => (xs, S1)) = some (ds, S') := h
      cases hk : k d with
      | none =>
        rw [hk] at h
        cases h
      | some xs =>
        rw [hk] at h
        cases h
        exact ⟨d, rfl, hk⟩
theorem seqI_ok {tg : Expr} (ha : PE X a (tE c fz bo fa)) : PI X tg a (tI c fz bo fun S => (fa S).bind fun (r, S) => (match r with
    | .val d => (seqOf d).map fun xs => (xs, S)
    | .exc _ _ => none)) :=
  PI.of (PI.or (pi_list ha) (pi_tup ha)) fun σ H R h => by
    obtain ⟨F, S, I, d, ds, S', e1, e2, g⟩ := tI_of (t := fun _ _ _ => True) (fun S ds S' h => bind_val h) h
    rcases seqOf_cases e2 with hd | hd
    · subst hd
      refine .inl ⟨F, S, I, .val _, S', e1, fun H1 s v hv => ?_⟩
      obtain ⟨a, xs, ev, hx, hi⟩ := it_list (K := X.K) s.env hv
      exact ⟨a, ev, ⟨xs, hx⟩, g _ _ s hi⟩
    · refine .inr ⟨F, S, I, .val _, S', e1, fun H1 s v hv => ?_⟩
      obtain ⟨a, xs, ev, hx, hi⟩ := it_tup (K := X.K) s.env hv hd
      exact ⟨a, ev, ⟨xs, hx⟩, g _ _ s hi⟩
theorem rngL_get : ∀ (n : Nat) (lo : Int) (i : Nat), (rngL lo n)[i]? = if i < n then some (.int (lo + i)) else none
  | 0, lo, i => by simp [rngL]
  | n + 1, lo, 0 => by simp [rngL]
  | n + 1, lo, i + 1 => by
    rw [rngL, List.getElem?_cons_succ, rngL_get n (lo + 1) i]
    have e : lo + 1 + (i : Int) = lo + ((i + 1 : Nat) : Int) := by omega
    rw [e]
    simp
theorem rngL_len : ∀ (n : Nat) (lo : Int), (rngL lo n).length = n
  | 0, _ => rfl
  | n + 1, lo => by rw [rngL, List.length_cons, rngL_len n]
theorem it_rng {pa : Option Addr} {B : AP} (lo : Int) (n : Nat) : ItOk pa B bo (L2.Itr lo n) H (rngL lo n) := by
  refine ⟨fun _ => False, fun _ z => z.elim, fun i H2 B2 k hB same => ⟨fun hi => ?_, fun hi => ?_, fun x H3 y => ?_⟩⟩
  · rw [rngL_len] at hi
    exact hi
  · rw [rngL_len] at hi
    exact hi
  · obtain ⟨e, y⟩ := y
    subst e y
    refine ⟨Ext.refl _, fun d hd => ?_⟩
    rw [rngL_get] at hd
    split at hd
    · cases hd
      exact .int _
    · cases hd
theorem rngD_of {lo hi : Int} {ds : List D} (h : rngD lo hi = some ds) : (-(2 ^ 62) ≤ lo ∧ lo < 2 ^ 62 ∧ -(2 ^ 62) ≤ hi ∧ hi < 2 ^ 62) ∧ ds = rngL lo (hi - lo).toNat := by
  unfold rngD at h
  split at h
  · rename_i q
    cases h
    refine ⟨?_, rfl⟩
    have e : (2 : Int) ^ 62 = 4611686018427387904 := by decide
    rw [bigO_eq] at q
    rw [e]
    exact ⟨q.1, q.2.1, q.2.2.1, q.2.2.2⟩
  · cases h
theorem rng1_ok {tg : Expr} (hg : Gl X "range") (hm : X.mg "range" = none) (ha : PE X a (tE c fz true fa)) (hs : starEach [a] X.env = [(false, eval a X.env)]) : PI X tg (.Call (.Name "range" p) [a] [] pos) (tI c fz bo fun S => (fa S).bind fun (r, S) => (match r with
    | .val d => (kRng1 d).map fun xs => (xs, S)
    | .exc _ _ => none)) :=
  PI.of (pi_range1 hg hm (pa_cons ha pa_nil (by rw [hs]; rfl)) hs) fun σ H R h => by
    obtain ⟨F, S, I, d, ds, S', e1, e2, g⟩ := tI_of (t := fun _ _ _ => True) (fun S ds S' h => bind_val h) h
    refine ⟨F, S, I, .val d, S', e1, fun H1 s v hv => ?_⟩
    cases d with
    | int j =>
      have ev := hv.b.int
      subst ev
      obtain ⟨q, rfl⟩ := rngD_of e2
      refine ⟨j, rfl, q.2.2.1, q.2.2.2, g _ _ s ?_⟩
      rw [Int.sub_zero]
      exact it_rng 0 j.toNat
    | _ => cases e2
theorem rng2_ok {tg : Expr} (hg : Gl X "range") (hm : X.mg "range" = none) (ha : PE X a (tE c fz true fa)) (hb : PE X b (tE c fz true fb)) (hs : starEach [a, b] X.env = [(false, eval a X.env), (false, eval b X.env)]) (hs2 : starEach [b] X.env = [(false, eval b X.env)]) :
    PI X tg (.Call (.Name "range" p) [a, b] [] pos) (tI c fz bo fun S => (fa S).bind fun (r, S) => (match r with
    | .val (.int i) => (fb S).bind fun (r, S) => (match r with
      | .val (.int j) => (rngD i j).map fun xs => (xs, S)
      | _ => none)
    | _ => none)) :=
  PI.of (pi_range2 hg hm (pa_cons ha (pa_cons hb pa_nil (by rw [hs2]; rfl)) (by rw [hs, hs2])) hs hs2) fun σ H R ⟨F, S, I, ds, S', e, g⟩ => by
    dsimp only at e
    obtain ⟨⟨r1, S1⟩, e1, e2⟩ := Option.bind_eq_some_iff.mp e
    cases r1 with
    | exc y d => cases e2
    | val d1 =>
      cases d1 with
      | int i =>
        obtain ⟨⟨r2, S2⟩, e3, e4⟩ := Option.bind_eq_some_iff.mp (show ((fb S1).bind fun (x : Res × St') => (match x.1 with
          | .val (.int j) => (rngD i j).map fun xs => (xs, x.2)
          | _ => none)) = some (ds, S') from e2)
        cases r2 with
        | exc y d => cases e4
        | val d2 =>
          cases d2 with
          | int j =>
            have e4 : (rngD i j).map (fun xs => (xs, S2)) = some (ds, S') := e4
            cases hk : rngD i j with
            | none =>
              rw [hk] at e4
              cases e4
            | some xs =>
              rw [hk] at e4
              cases e4
              obtain ⟨q, rfl⟩ := rngD_of hk
              refine ⟨F, S, I, .val (.int i), S1, e1, fun H1 s1 v hv => ⟨F, S1, s1.env, .val (.int j), _, e3, fun H2 s2 w hw => ?_⟩⟩
              have ev := hv.b.int
              have ew := hw.b.int
              subst ev ew
              exact ⟨i, j, rfl, q, g _ _ (s1.trans s2) (it_rng _ _)⟩
          | _ => cases e4
      | _ => cases e2
theorem enumL_get : ∀ (ds : List D) (k : Int) (i : Nat), (enumL k ds)[i]? = (ds[i]?).map fun d => .tup [.int (k + i), d]
  | [], k, i => by simp [enumL]
  | d :: ds, k, 0 => by simp [enumL]
  | d :: ds, k, i + 1 => by
    rw [enumL, List.getElem?_cons_succ, List.getElem?_cons_succ, enumL_get ds (k + 1) i]
    have e : k + 1 + (i : Int) = k + ((i + 1 : Nat) : Int) := by omega
    rw [e]
theorem enumL_len : ∀ (ds : List D) (k : Int), (enumL k ds).length = ds.length
  | [], _ => rfl
  | d :: ds, k => by rw [enumL, List.length_cons, List.length_cons, enumL_len ds]
theorem zipL_get : ∀ (ds es : List D) (i : Nat), (zipL ds es)[i]? = (ds[i]?).bind fun d => (es[i]?).map fun e => .tup [d, e]
  | [], es, i => by cases es <;> simp [zipL]
  | d :: ds, [], i => by simp [zipL]
  | d :: ds, e :: es, 0 => by simp [zipL]
  | d :: ds, e :: es, i + 1 => by
    rw [zipL, List.getElem?_cons_succ, List.getElem?_cons_succ, List.getElem?_cons_succ, zipL_get ds es i]
theorem zipL_len : ∀ (ds es : List D), (zipL ds es).length = min ds.length es.length
  | [], es => by cases es <;> simp [zipL]
  | d :: ds, [] => by simp [zipL]
  | d :: ds, e :: es => by
    rw [zipL, List.length_cons, List.length_cons, List.length_cons, zipL_len ds es]
    omega
theorem pair_rep {pa : Option Addr} {B2 : AP} {H2 : Hp} {T : Addr} {v w : V} {d e : D} (hB : Dom B2 H2) (hT : H2 T = none) (hv : Rep pa B2 H2 v d) (hw : Rep pa B2 H2 w e) : Rep pa B2 (upd H2 T (.tup [v, w])) (.ref T) (.tup [d, e]) :=
  .tup upd_same (hB.fresh hT) (.cons (hv.kp (Ext.kp (Ext.new hT))) (.cons (hw.kp (Ext.kp (Ext.new hT))) .nil))
theorem enum_ok {es : List Expr} {kk : Nat} {tpos : Pos} (hg : Gl X "enumerate") (hm : X.mg "enumerate" = none) (ha : PE X a (tE c fz bo fa)) (hs : starEach [a] X.env = [(false, eval a X.env)]) :
    PI X (.Tuple es kk tpos) (.Call (.Name "enumerate" p) [a] [] pos) (tI c fz bo fun S => (fa S).bind fun (r, S) => (match r with
    | .val d => (seqOf d).map fun xs => (enumL 0 xs, S)
    | .exc _ _ => none)) :=
  PI.of (pi_enumA hg hm (pa_cons ha pa_nil (by rw [hs]; rfl)) hs) fun σ H R h => by
    have hf : ∀ S ds S', ((fa S).bind fun (x : Res × St') => (match x.1 with
      | .val d => (seqOf d).map fun xs => (enumL 0 xs, x.2)
      | .exc _ _ => none)) = some (ds, S') → ∃ d, fa S = some (.val d, S') ∧ ((seqOf d).map (enumL 0)) = some ds := fun S ds S' h => by
      refine bind_val (k := fun d => (seqOf d).map (enumL 0)) ?_
      rw [← h]
      congr 1
      funext ⟨r, S1⟩
      cases r with
      | exc _ _ => rfl
      | val d =>
        show ((seqOf d).map (enumL 0)).map (fun xs => (xs, S1)) = (seqOf d).map fun xs => (enumL 0 xs, S1)
        cases seqOf d <;> rfl
    obtain ⟨F, S, I, d, ds, S', e1, e2, g⟩ := tI_of (t := fun _ _ _ => True) hf h
    cases hd : seqOf d with
    | none =>
      rw [hd] at e2
      cases e2
    | some es' =>
      rw [hd] at e2
      cases e2
      refine ⟨F, S, I, .val d, S', e1, fun H1 s v hv => ?_⟩
      rcases seqOf_cases hd with hd | hd
      · subst hd
        obtain ⟨q, xs, ev, hx, hr⟩ := hv.b.lst
        subst ev
        refine ⟨q, xs, rfl, .inl ⟨SqL.of hx, g _ _ s ?_⟩⟩
        have np := hv.nopot (xs := []) (o := .lst []) s.env rfl ⟨(fun z => nomatch z), fun _ z => nomatch z⟩
        refine ⟨fun b => b = q, fun b hb => ?_, fun i H2 B2 k hB same => ?_⟩
        · subst hb
          exact ⟨np.1, by rw [hx]; exact (fun z => nomatch z), np.2⟩
        · have h2 : H2 q = some (.lst xs) := (same q rfl).trans hx
          have hr2 := hr.kp k
          rw [enumL_len]
          refine ⟨fun hi => ?_, fun hi => ⟨xs, SqL.of h2, by rw [hr.length]; exact hi⟩, fun x H3 y => ?_⟩
          · obtain ⟨d, hd⟩ := get_lt hi
            obtain ⟨w, g1, _⟩ := hr2.get hd
            exact ⟨xs, w, SqL.of h2, g1⟩
          · obtain ⟨T, x', ex, hT, eH, y⟩ := y
            subst ex eH
            refine ⟨Ext.new hT, fun d hd => ?_⟩
            rw [enumL_get] at hd
            obtain ⟨d0, hd0, rfl⟩ := Option.map_eq_some_iff.mp hd
            obtain ⟨w, g1, g2⟩ := hr2.get hd0
            have e2 := y xs (SqL.of h2)
            rw [g1] at e2
            cases e2
            rw [Int.zero_add]
            exact pair_rep hB hT (.int _) g2
      · obtain ⟨q, xs, o, ev, hx, hq, np, nb, hr⟩ := it_at (K := X.K) s.env hv hd
        subst ev
        refine ⟨q, xs, rfl, .inr ⟨hq _ hx, g _ _ s ?_⟩⟩
        refine ⟨fun b => b = q, fun b hb => ?_, fun i H2 B2 k hB same => ?_⟩
        · subst hb
          exact ⟨np, by rw [hx]; exact (fun z => nomatch z), nb⟩
        · have h2 : H2 q = some o := (same q rfl).trans hx
          have hr2 := hr.kp k
          rw [enumL_len]
          refine ⟨fun hi => ?_, fun hi => ⟨xs, hq H2 h2, by rw [hr.length]; exact hi⟩, fun x H3 y => ?_⟩
          · obtain ⟨d, hd⟩ := get_lt hi
            obtain ⟨w, g1, _⟩ := hr2.get hd
            exact ⟨xs, w, hq H2 h2, g1⟩
          · obtain ⟨T, x', ex, hT, eH, y⟩ := y
            subst ex eH
            refine ⟨Ext.new hT, fun d hd => ?_⟩
            rw [enumL_get] at hd
            obtain ⟨d0, hd0, rfl⟩ := Option.map_eq_some_iff.mp hd
            obtain ⟨w, g1, g2⟩ := hr2.get hd0
            have e2 := y xs (hq H2 h2)
            rw [g1] at e2
            cases e2
            rw [Int.zero_add]
            exact pair_rep hB hT (.int _) g2
end
end Ev

set_option Elab.async false
set_option linter.all false
set_option maxRecDepth 100000
set_option maxHeartbeats 4000000
/-! Ev12: list comprehensions. -/
namespace Ev
open PySem PySem.Spec PyProof.Rows L2
section
variable {c : Ct} {F : AP} {σ : L2.St} {H H' H'' : Hp} {S S' S'' : St'} {fz bo : Bool}
variable {X : Cx} {a b e : Expr} {pos p : Pos} {fa fb fc : St' → Option (Res × St')} {Q : VK}

theorem wipeE_length (env : List SV) : ∀ vs : List Nat, (wipeE env vs).length = env.length
  | [] => rfl
  | v :: vs => by unfold wipeE; rw [List.length_set, wipeE_length env vs]
theorem wipeE_get {vs : List Nat} {env : List SV} {j : Nat} : (wipeE env vs)[j]? = if j ∈ vs ∧ j < env.length then some .un else env[j]? := by
  induction vs with
  | nil => simp [wipeE]
  | cons v vs ih =>
    unfold wipeE
    by_cases e : v = j
    · subst e
      by_cases hv : v < env.length
      · rw [List.getElem?_set_self (by rw [wipeE_length]; exact hv), if_pos ⟨by simp, hv⟩]
      · rw [List.getElem?_eq_none (by rw [List.length_set, wipeE_length]; omega), if_neg (fun z => hv z.2), List.getElem?_eq_none (by omega)]
    · rw [List.getElem?_set_ne e, ih]
      have : (j ∈ v :: vs) ↔ j ∈ vs := ⟨fun z => (List.mem_cons.mp z).elim (fun q => absurd q.symm e) id, List.mem_cons_of_mem _⟩
      simp only [this]
theorem ownW {vs : List Nat} (I : EnvR c F σ H S) {a : Addr} (h : Own (wipe σ vs) (wipeE S.env vs) a) : Own σ S.env a := by
  obtain ⟨j, es, ⟨e1, w⟩, e2⟩ := h
  rw [wipeE_get] at e1
  rw [wipe_get] at e2
  by_cases hj : j ∈ vs ∧ j < S.env.length
  · rw [if_pos hj] at e1
    cases e1
    cases w
  · rw [if_neg hj] at e1
    rw [if_neg (by rw [I.len]; exact hj)] at e2
    exact ⟨j, es, ⟨e1, w⟩, e2⟩
theorem ownW' {vs : List Nat} (I : EnvR c F σ H S) (hn : vs.all (fun i => notOwn S.env i) = true) {a : Addr} (h : Own σ S.env a) : Own (wipe σ vs) (wipeE S.env vs) a := by
  obtain ⟨j, es, ⟨e1, w⟩, e2⟩ := h
  have hj : ¬ (j ∈ vs ∧ j < S.env.length) := fun z => by
    have q := List.all_eq_true.mp hn j z.1
    unfold notOwn at q
    rw [e1] at q
    cases es <;> first | (cases w; done) | (cases q; done)
  exact ⟨j, es, ⟨by rw [wipeE_get, if_neg hj]; exact e1, w⟩, by rw [wipe_get, if_neg (by rw [I.len]; exact hj)]; exact e2⟩
/-- an object that nothing stands on changes -/
theorem EnvR.mutD (I : EnvR c F σ H S) {D : Addr} {o : HO} (hF : F D) (hp : c.pa ≠ some D) (h0 : c.H0 D = none) : EnvR c F σ (upd H D o) S := by
  have kp : Keep (Bad F σ S.env) (Bad F σ S.env) H (upd H D o) := fun a u h n => ⟨by rw [upd_ne (show a ≠ D from fun e => n (.inl (by rw [e]; exact hF)))]; exact h, n⟩
  refine ⟨I.len, fun a h => ?_, fun q e => ⟨(I.pot q e).1, ?_⟩, fun i d e => ?_, fun i ds e => ?_, I.inj, fun a u h n => ?_⟩
  · by_cases e : a = D
    · rw [e, upd_same]
      exact fun z => nomatch z
    · rw [upd_ne e]
      exact I.dom a h
  · rw [upd_ne (fun z => hp (by rw [e, z]))]
    exact (I.pot q e).2
  · obtain ⟨v, h1, h2⟩ := I.val i d e
    exact ⟨v, h1, h2.kp kp⟩
  · obtain ⟨b, h1, h2, h4, h5⟩ := I.ow i ds e
    exact ⟨b, h1, h2.mv kp fun o z => by rw [upd_ne (show b ≠ D from fun z => h4 (by rw [z]; exact hF))]; exact z, h4, h5⟩
  · rw [upd_ne (fun z => by rw [z, h0] at h; cases h)]
    exact I.keep a u h n
/-- a comprehension's block is entered, its list at D -/
theorem enter {vs : List Nat} {D : Addr} {o : HO} (I : EnvR c F σ H S) (hD : H D = none) : EnvR c (fun a => F a ∨ a = D) (wipe σ vs) (upd H D o) ⟨wipeE S.env vs, S.pot⟩ := by
  have kp : Keep (Bad F σ S.env) (Bad (fun a => F a ∨ a = D) (wipe σ vs) (wipeE S.env vs)) H (upd H D o) := fun a u h n => by
    have ne : a ≠ D := ne_of_none h hD
    refine ⟨by rw [upd_ne ne]; exact h, fun z => ?_⟩
    rcases z with (z | z) | z
    · exact n (.inl z)
    · exact ne z
    · exact n (.inr (ownW I z))
  refine ⟨by rw [wipe_length, wipeE_length]; exact I.len, fun a h => ?_, fun q e => ⟨.inl (I.pot q e).1, ?_⟩, fun i d e => ?_, fun i ds ⟨e, w⟩ => ?_, fun i j a ds es ⟨e1, w1⟩ ⟨e2, w2⟩ e3 e4 => ?_, fun a u h n => ?_⟩
  · by_cases e : a = D
    · rw [e, upd_same]
      exact fun z => nomatch z
    · rw [upd_ne e]
      exact I.dom a (h.elim id fun z => absurd z e)
  · rw [upd_ne (ne_of_none (I.pot q e).2 hD)]
    exact (I.pot q e).2
  · rw [wipeE_get] at e
    by_cases hj : i ∈ vs ∧ i < S.env.length
    · rw [if_pos hj] at e
      cases e
    · rw [if_neg hj] at e
      obtain ⟨v, h1, h2⟩ := I.val i d e
      exact ⟨v, by rw [wipe_get, if_neg (by rw [I.len]; exact hj)]; exact h1, h2.kp kp⟩
  · rw [wipeE_get] at e
    by_cases hj : i ∈ vs ∧ i < S.env.length
    · rw [if_pos hj] at e
      cases e
      cases w
    · rw [if_neg hj] at e
      obtain ⟨b, h1, h2, h4, h5⟩ := I.ow i ds ⟨e, w⟩
      obtain ⟨o, ho⟩ := h2.there
      have ne : b ≠ D := ne_of_none ho hD
      exact ⟨b, by rw [wipe_get, if_neg (by rw [I.len]; exact hj)]; exact h1, h2.mv kp fun o z => by rw [upd_ne ne]; exact z, fun z => z.elim h4 ne, h5⟩
  · rw [wipeE_get] at e1 e2
    rw [wipe_get] at e3 e4
    by_cases hi : i ∈ vs ∧ i < S.env.length
    · rw [if_pos hi] at e1
      cases e1
      cases w1
    by_cases hj : j ∈ vs ∧ j < S.env.length
    · rw [if_pos hj] at e2
      cases e2
      cases w2
    rw [if_neg hi] at e1
    rw [if_neg hj] at e2
    rw [if_neg (by rw [I.len]; exact hi)] at e3
    rw [if_neg (by rw [I.len]; exact hj)] at e4
    exact I.inj i j a ds es ⟨e1, w1⟩ ⟨e2, w2⟩ e3 e4
  · have q := I.keep a u h n
    rw [upd_ne (ne_of_none q hD)]
    exact q
/-- a comprehension's condition -/
def tCn (c : Ct) (f : St' → Option (Bool × Pt)) : TT := fun σ H Q => ∃ F S, EnvR c F σ H S ∧ ∃ k P, f S = some (k, P) ∧ ∀ H' S', Stp c F σ false H S H' S' → S'.pot = P → Q k H'
theorem PTs.of {ifs : List Expr} {t t' : TT} (h : PTs X ifs t) (w : ∀ σ H Q, t' σ H Q → t σ H Q) : PTs X ifs t' := ⟨fun pins s σ H Q I q => h.run pins s σ H Q I (w σ H Q q)⟩
theorem cnNo_ok : PTs X [] (tCn c fun S => some (true, S.pot)) := PTs.of pts_nil fun σ H Q ⟨F, S, I, k, P, e, g⟩ => by
  cases e
  exact g H S (Stp.refl I) rfl
theorem cnSo_ok (h : PT X a (tT c false fa)) : PTs X [a] (tCn c fun S => (fa S).bind fun (r, S) => (match r with
    | .val d => (truD d).map fun k => (k, S.pot)
    | .exc _ _ => none)) := PTs.of (pts_one h) fun σ H Q ⟨F, S, I, k, P, e, g⟩ => by
  refine ⟨F, S, I, ?_⟩
  dsimp only at e
  obtain ⟨⟨r, S1⟩, e1, e2⟩ := Option.bind_eq_some_iff.mp e
  cases r with
  | exc y d => cases e2
  | val d =>
    have e2 : (truD d).map (fun k => (k, S1.pot)) = some (k, P) := e2
    obtain ⟨k', hk, e3⟩ := Option.map_eq_some_iff.mp e2
    cases e3
    exact ⟨.val d, S1, e1, fun d' z => (by cases z; rw [hk]; rfl), fun H1 s => ⟨k, hk, g H1 S1 s rfl⟩⟩
def lcBody (t : T) (ew : List SV) (fcn : St' → Option (Bool × Pt)) (fe : St' → Option (Res × St')) (x : D) (P : Pt) : Option (Option D × Pt) := (bindT t x ew).bind fun env => (fcn ⟨env, P⟩).bind fun (k, P) =>
  if k then (fe ⟨env, P⟩).bind fun (r, S1) => (match r with
    | .val d => some (some d, S1.pot)
    | .exc _ _ => none) else some (none, P)
theorem lc_gen {vs : List Nat} {t : T} {fi : St' → Option (List D × St')} {fcn : St' → Option (Bool × Pt)} {fe : St' → Option (Res × St')} (hsl : ∀ i ∈ t.slots, i ∈ vs) {F : AP} {S S1 : St'} {items ds : List D} {P : Pt}
    (I : EnvR c F σ H S) (ei : fi S = some (items, S1)) (hl : items.length ≤ LIM) (hno : vs.all (fun i => notOwn S1.env i) = true) (er : lcRun (lcBody t (wipeE S1.env vs) fcn fe) items S1.pot = some (ds, P))
    (g : ∀ D H1 Hc acc, Stp c F σ fz H S H1 S1 → H1 D = none → StepE c.pa H1 Hc → PotR c.pa (fun a => F a ∨ a = D) Hc P → Hc D = some (.lst acc) → RepL c.pa (Bad (fun a => F a ∨ a = D) (wipe σ vs) (wipeE S1.env vs)) Hc acc ds → Q (.ref D) Hc) :
    tLc (tI c fz true fi) (tG c.nox t) (tCn c.nox fcn) (tE c.nox false false fe) vs σ H Q := by
  refine ⟨F, S, I, items, S1, ei, fun J H1 s1 hJ D hD => ?_⟩
  obtain ⟨KS, hKS, hJ⟩ := hJ
  have I1 := s1.env
  have npD : c.pa ≠ some D := fun e => I1.dom D (I1.notpot e) hD
  have h0D : c.H0 D = none := by
    cases q : c.H0 D with
    | none => rfl
    | some o =>
      have := I1.keep D o q npD
      rw [hD] at this
      cases this
  generalize hew : wipeE S1.env vs = ew at er
  generalize hσw : wipe σ vs = σw
  have ow : ∀ a, Own σw ew a → Own σ S1.env a := fun a z => by
    rw [← hew, ← hσw] at z
    exact ownW I1 z
  have ow' : ∀ a, Own σ S1.env a → Own σw ew a := fun a z => by
    rw [← hew, ← hσw]
    exact ownW' I1 hno z
  have IE0 : EnvR c (fun a => F a ∨ a = D) σw (upd H1 D (.lst [])) ⟨ew, S1.pot⟩ := by
    rw [← hew, ← hσw]
    exact enter I1 hD
  refine ⟨fun i m Hc => m = items.length - i ∧ i ≤ items.length ∧ ∃ acc ad Pi rest, Hc D = some (.lst acc) ∧ RepL c.pa (Bad (fun a => F a ∨ a = D) σw ew) Hc acc ad ∧ ad.length ≤ i ∧
    lcRun (lcBody t ew fcn fe) (items.drop i) Pi = some (rest, P) ∧ ad ++ rest = ds ∧ EnvR c (fun a => F a ∨ a = D) σw Hc ⟨ew, Pi⟩ ∧ StepE c.pa H1 Hc,
    ⟨items.length, by simp, Nat.zero_le _, [], [], S1.pot, ds, upd_same, .nil, Nat.zero_le _, er, rfl, IE0, StepE.new hD⟩, ?_⟩
  rintro i m Hc ⟨rfl, hi, acc, ad, Pi, rest, h1, h2, h3, h4, h5, IE, st⟩
  have kp : Keep (Bad F σ S1.env) (Bad (fun a => F a ∨ a = D) σw ew) H1 Hc := fun a o ha na => by
    refine ⟨st.keep a o ha fun e => na (.inl (I1.notpot e)), fun z => ?_⟩
    rcases z with (z | z) | z
    · exact na (.inl z)
    · rw [z, hD] at ha
      cases ha
    · exact na (.inr (ow a z))
  have same : ∀ a, KS a → Hc a = H1 a := fun a ha => by
    cases q : H1 a with
    | none => exact absurd q (hKS a ha).2.1
    | some o => exact st.keep a o q (hKS a ha).1
  obtain ⟨hgo, hstop, hy⟩ := hJ i Hc _ kp IE.badDom same
  by_cases hlt : i < items.length
  · refine .inr ⟨hgo hlt, _, fun H' w => ⟨items.length - (i + 1), by omega, w⟩, fun x H' y => ?_⟩
    obtain ⟨ex, rx⟩ := hy x H' y
    obtain ⟨d, hd⟩ := get_lt hlt
    have rx := rx d hd
    have IE' := IE.ext ex
    have ed : items.drop i = d :: items.drop (i + 1) := by
      rw [List.drop_eq_getElem_cons hlt]
      rw [List.getElem?_eq_getElem hlt] at hd
      rw [Option.some.inj hd]
    rw [ed] at h4
    obtain ⟨⟨o, P1⟩, hb, h4⟩ := Option.bind_eq_some_iff.mp (show ((lcBody t ew fcn fe d Pi).bind fun (z : Option Ev.D × Pt) => (lcRun (lcBody t ew fcn fe) (items.drop (i + 1)) z.2).map fun (y : List Ev.D × Pt) => (match z.1 with
      | some d => d :: y.1
      | none => y.1, y.2)) = some (rest, P) from h4)
    obtain ⟨⟨r2, P2⟩, h4b, h6⟩ := Option.map_eq_some_iff.mp h4
    obtain ⟨env2, eb, hb⟩ := Option.bind_eq_some_iff.mp (show ((bindT t d ew).bind fun env => (fcn ⟨env, Pi⟩).bind fun (z : Bool × Pt) => if z.1 = true then (fe ⟨env, z.2⟩).bind fun (w : Res × St') => (match w.1 with
      | .val d => some (some d, w.2.pot)
      | .exc _ _ => none) else some (none, z.2)) = some (o, P1) from hb)
    obtain ⟨⟨k, P3⟩, ec, hb⟩ := Option.bind_eq_some_iff.mp hb
    have kD : ∀ {Ha Hb : Hp} {z : HO}, StepE c.pa Ha Hb → Ha D = some z → Hb D = some z := fun s z => s.keep D _ z npD
    have h1' : H' D = some (.lst acc) := ex D _ h1
    refine ⟨_, ⟨ew, Pi⟩, d, env2, IE'.nox, rx, eb, fun σ2 t2 => ⟨(t2.same vs hsl).trans (by rw [← hσw, wipe_wipe]), ?_⟩⟩
    refine ⟨_, ⟨env2, Pi⟩, t2.env, k, P3, ec, fun H3 S3 s3 ep => ?_⟩
    have p3 : PotR c.pa (fun a => F a ∨ a = D) H3 P3 := by
      rw [← ep]
      exact s3.env.pot
    have IE3 : EnvR c (fun a => F a ∨ a = D) σw H3 ⟨ew, P3⟩ := IE'.step s3.st p3
    have st3 : StepE c.pa H1 H3 := (st.trans ex.step).trans s3.st
    have kp3 : Keep (Bad (fun a => F a ∨ a = D) σw ew) (Bad (fun a => F a ∨ a = D) σw ew) Hc H3 := fun a o ha na => ⟨s3.st.keep a o (ex a o ha) fun e => na (.inl (IE.notpot e)), na⟩
    cases k with
    | false =>
      cases hb
      cases h6
      show items.length - (i + 1) = _ ∧ _
      exact ⟨rfl, hlt, acc, ad, P3, _, kD s3.st h1', h2.kp kp3, by omega, h4b, h5, IE3, st3⟩
    | true =>
      obtain ⟨⟨rr, S4⟩, ef, hb⟩ := Option.bind_eq_some_iff.mp (show ((fe ⟨env2, P3⟩).bind fun (w : Res × St') => (match w.1 with
        | .val d => some (some d, w.2.pot)
        | .exc _ _ => none)) = some (o, P1) from hb)
      cases rr with
      | exc y d => cases hb
      | val y =>
        cases hb
        cases h6
        have I3 : EnvR c.nox (fun a => F a ∨ a = D) σ2 H3 ⟨env2, P3⟩ := t2.env.step s3.st p3
        refine ⟨_, ⟨env2, P3⟩, I3, .val y, S4, ef, fun H4 s4 yv hv => ?_⟩
        have h4D : H4 D = some (.lst acc) := kD s4.st (kD s3.st h1')
        refine ⟨acc, h4D, by rw [h2.length, lim_eq]; omega, ?_⟩
        have b4 : ∀ a, Own σw ew a → Own σ2 S4.env a := fun a z => s4.fr rfl a (t2.back (fun j hj => by
          have hj2 := hsl j hj
          unfold notOwn
          show (match ew[j]? with
            | some (.own _) => false
            | some (.od _ _ _) => false
            | _ => true) = true
          rw [← hew, wipeE_get]
          by_cases hjl : j < S1.env.length
          · rw [if_pos ⟨hj2, hjl⟩]
          · rw [if_neg (fun z => hjl z.2), List.getElem?_eq_none (by omega)]) a z)
        have kp4 : Keep (Bad (fun a => F a ∨ a = D) σ2 S4.env) (Bad (fun a => F a ∨ a = D) σw ew) H4 (upd H4 D (.lst (acc ++ [yv]))) := fun a u ha na => by
          refine ⟨by rw [upd_ne (fun z => na (.inl (.inr z)))]; exact ha, fun z => na (z.elim .inl fun w => .inr (b4 a w))⟩
        have kp5 : Keep (Bad (fun a => F a ∨ a = D) σw ew) (Bad (fun a => F a ∨ a = D) σw ew) Hc (upd H4 D (.lst (acc ++ [yv]))) := fun a u ha na => by
          obtain ⟨g1, g2⟩ := kp3 a u ha na
          exact ⟨by rw [upd_ne (fun z => na (.inl (.inr z)))]; exact s4.st.keep a u g1 fun e => na (.inl (IE.notpot e)), na⟩
        have IE4 : EnvR c (fun a => F a ∨ a = D) σw H4 ⟨ew, S4.pot⟩ := IE3.step s4.st s4.env.pot
        show items.length - (i + 1) = _ ∧ _
        refine ⟨rfl, hlt, acc ++ [yv], ad ++ [y], S4.pot, r2, upd_same, (h2.kp kp5).append (.cons (hv.rep.kp kp4) .nil), by simp; omega, h4b, by rw [List.append_assoc]; exact h5, IE4.mutD (.inr rfl) npD h0D, ?_⟩
        have st4 := st3.trans s4.st
        refine ⟨fun a o ha na => by rw [upd_ne (ne_of_none ha hD)]; exact st4.keep a o ha na, fun a ha => ?_⟩
        by_cases z : a = D
        · rw [z, upd_same]
          exact fun q => nomatch q
        · rw [upd_ne z]
          exact st4.dom a ha
  · have ei2 : i = items.length := by omega
    subst ei2
    rw [List.drop_length] at h4
    cases h4
    rw [List.append_nil] at h5
    subst h5
    refine .inl ⟨hstop (Nat.le_refl _), ?_⟩
    have h2' : RepL c.pa (Bad (fun a => F a ∨ a = D) (wipe σ vs) (wipeE S1.env vs)) Hc acc ad := by
      rw [hew, hσw]
      exact h2
    exact g D H1 Hc acc s1 hD st IE.pot h1 h2'
theorem lc_read {vs : List Nat} {t : T} {fi : St' → Option (List D × St')} {fcn : St' → Option (Bool × Pt)} {fe : St' → Option (Res × St')} (hsl : ∀ i ∈ t.slots, i ∈ vs)
    (h : tE c fz bo (fun S => (fi S).bind fun (items, S) => if items.length ≤ LIM ∧ vs.all (fun i => notOwn S.env i) = true then (lcRun (lcBody t (wipeE S.env vs) fcn fe) items S.pot).map fun (ds, P) => (.val (.lst ds), ⟨S.env, P⟩) else none) σ H Q) :
    tLc (tI c fz true fi) (tG c.nox t) (tCn c.nox fcn) (tE c.nox false false fe) vs σ H Q := by
  obtain ⟨F, S, I, r, S', e, g⟩ := h
  dsimp only at e
  obtain ⟨⟨items, S1⟩, ei, e⟩ := Option.bind_eq_some_iff.mp e
  dsimp only at e
  split at e
  case isFalse => cases e
  rename_i hl
  obtain ⟨hl, hno⟩ := hl
  obtain ⟨⟨ds, P⟩, er, e⟩ := Option.map_eq_some_iff.mp e
  cases e
  refine lc_gen hsl I ei hl hno er fun D H1 Hc acc s1 hD st hp h1 h2 => ?_
  exact g Hc (s1.trans (s1.env.sub st hp)) _ (.inl (.lst h1 (s1.env.badDom.fresh hD) (h2.kp (Keep.less fun a z => z.elim (fun w => .inl (.inl w)) fun w => .inr (ownW' s1.env hno w)))))
theorem lc_ok {elt tg iter : Expr} {ifs : List Expr} {scope : Scope} {own : List (Str × Nat)} {t : T} {fi : St' → Option (List D × St')} {fcn : St' → Option (Bool × Pt)} {fe : St' → Option (Res × St')} (hc : X.calm = true) (hN : X.N.Nodup) (hi : PI X tg iter (tI c fz true fi)) (ok : BlkOk X.N X.env.scope scope own)
    (hg : ∀ (s : Shared) (H : Hp) (C : Addr) (cl : List (Str × Addr)) (fp : List Addr), PG (X.blk s H scope (compEnvC scope cl C X.env) fp) tg (tG c.nox t)) (ht : ∀ (s : Shared) (H : Hp) (C : Addr) (cl : List (Str × Addr)) (fp : List Addr), PTs (X.blk s H scope (compEnvC scope cl C X.env) fp) ifs (tCn c.nox fcn))
    (he : ∀ (s : Shared) (H : Hp) (C : Addr) (cl : List (Str × Addr)) (fp : List Addr), PE (X.blk s H scope (compEnvC scope cl C X.env) fp) elt (tE c.nox false false fe)) (hs : ∀ x, foldedSetIterable iter X.env x = pure x) (hsl : ∀ i ∈ t.slots, i ∈ own.map (·.2)) :
    PE X (.ListComp elt [⟨tg, iter, ifs, 0⟩] scope pos) (tE c fz bo (fun S => (fi S).bind fun (items, S) => if items.length ≤ LIM ∧ (own.map (·.2)).all (fun i => notOwn S.env i) = true then (lcRun (lcBody t (wipeE S.env (own.map (·.2))) fcn fe) items S.pot).map fun (ds, P) => (.val (.lst ds), ⟨S.env, P⟩) else none)) :=
  PE.of (pe_lc hc hN hi ok hg ht he hs) fun σ H Q q => lc_read hsl q
end
end Ev

set_option Elab.async false
set_option linter.all false
set_option maxRecDepth 100000
set_option maxHeartbeats 4000000
/-! EvD4: lists of ranges, turned lists, dicts walked, zip, dicts by comprehensions. -/
namespace Ev
open PySem PySem.Spec PyProof.Rows L2
section
variable {c : Ct} {F : AP} {σ σ' : L2.St} {H H' H'' : Hp} {S S' S'' : St'} {fz bo : Bool}
variable {X : Cx} {a b e o i : Expr} {pos p p2 pos2 : Pos} {fa fb fc : St' → Option (Res × St')} {Q : VK}
theorem rgV_rep {pa : Option Addr} {B : AP} {H : Hp} {j : Int} (h : 0 ≤ j) : RepL pa B H (rgV 0 j) ((List.range j.toNat).map fun i => D.int (i : Nat)) := by
  unfold rgV
  rw [Int.sub_zero]
  generalize List.range j.toNat = l
  induction l with
  | nil => exact .nil
  | cons x l ih =>
    rw [List.map_cons, List.map_cons, Int.zero_add]
    exact .cons (.int _) ih
theorem lr1_ok (hc : X.calm = true) (hg : Gl X "list") (hm : X.mg "list" = none) (hg2 : Gl X "range") (hm2 : X.mg "range" = none) (ha : PE X a (tE c fz true fa)) (hs : starEach [a] X.env = (false, eval a X.env) :: starEach [] X.env) :
    PE X (.Call (.Name "list" p) [.Call (.Name "range" p2) [a] [] pos2] [] pos) (tE c fz bo fun S => bindR (fa S) fun x S => pureV (lrgD x) S) :=
  PE.of (pe_listRg hc hg hm (prg_1 hg2 hm2 ha hs)) fun σ H Q ⟨F, S, I, f⟩ => by
    refine ⟨F, S, I, f.bind.mono fun x H1 ⟨d, S1, s1, r1, f1⟩ => ?_⟩
    obtain ⟨z, e, q⟩ := f1.pure s1.env
    cases d with
    | int j =>
      have hx := r1.b.int
      subst hx
      have e : (if 0 ≤ j ∧ j ≤ mlO then some (D.lst ((List.range j.toNat).map fun i => .int (i : Nat))) else none) = some z := e
      split at e
      case isFalse => cases e
      rename_i hj
      rw [mlO_eq] at hj
      cases e
      refine ⟨j, rfl, RgOk.of_le (by omega) (by omega) (by omega) (by omega), fun p hp => q _ _ (Ext.new hp) (Rep.newL s1.env.badDom hp (rgV_rep hj.1))⟩
    | _ => cases e
theorem rev_ok {k : Nat} {p1 p3 : Pos} (ha : PE X a (tE c fz true fa)) : PE X (.Subscript a (.Slice none none (some (.UnaryOp .USub (.Constant (.int 1) k p1) p2)) p3) pos) (tE c fz bo fun S => bindR (fa S) fun x S => pureV (revD x) S) :=
  PE.of (pe_revL ha) fun σ H Q ⟨F, S, I, f⟩ => by
    refine ⟨F, S, I, f.bind.mono fun x H1 ⟨d, S1, s1, r1, f1⟩ => ?_⟩
    obtain ⟨z, e, q⟩ := f1.pure s1.env
    cases d with
    | lst ds =>
      cases e
      obtain ⟨l, xs, rfl, hx, hr⟩ := r1.b.lst
      exact ⟨l, xs, rfl, SqL.of hx, fun p hp => q _ _ (Ext.new hp) (Rep.newL s1.env.badDom hp hr.reverse)⟩
    | _ => cases e
/-! ### a dict's keys -/
theorem it_keys {v : V} {ks vs : List D} (I : EnvR c F σ H S) (h : RR bo c.pa F (Bad F σ S.env) H v (.dct false ks vs)) : ∃ d od kvs, v = V.ref d ∧ H d = some (.frz od (.dK kvs)) ∧ ItOk c.pa (Bad F σ S.env) bo (Itk d od kvs) H ks := by
  obtain ⟨a, _, kxs, vxs, ev, h1, ⟨od, o, rfl, h2⟩, h3, h4⟩ := h.b.dct
  obtain ⟨kvs, rfl, rfl, rfl⟩ := (show ∃ kvs : List (Key × V), o = .dK kvs ∧ kxs = kvs.map (fun p => kV p.1) ∧ vxs = kvs.map (·.2) from h2)
  refine ⟨a, od, kvs, ev, h1, fun b => b = a, fun b hb => ?_, fun i H2 B2 k hB same => ?_⟩
  · subst hb
    have q := h.nopot (xs := []) (o := .lst []) I ev ⟨(fun z => nomatch z), fun _ z => nomatch z⟩
    exact ⟨q.1, by rw [h1]; exact (fun z => nomatch z), q.2⟩
  · have h2 : H2 a = some (.frz od (.dK kvs)) := (same a rfl).trans h1
    have hr2 := h3.kp k
    have hl : kvs.length = ks.length := by rw [← h3.length, List.length_map]
    refine ⟨fun hi => ⟨h2, by rw [hl]; exact hi⟩, fun hi => ⟨h2, by rw [hl]; exact hi⟩, fun x H3 y => ?_⟩
    obtain ⟨e, k1, v1, e1, e2⟩ := y
    subst e e2
    refine ⟨Ext.refl _, fun d hd => ?_⟩
    obtain ⟨w, g1, g2⟩ := hr2.get hd
    rw [List.getElem?_map, e1] at g1
    cases g1
    exact g2
theorem keysI_ok {tg : Expr} (ha : PE X a (tE c fz bo fa)) : PI X tg a (tI c fz bo fun S => (fa S).bind fun (r, S) => (match r with
    | .val d => (keysOf d).map fun xs => (xs, S)
    | .exc _ _ => none)) :=
  PI.of (pi_keys ha) fun σ H R h => by
    obtain ⟨F, S, I, d, ds, S', e1, e2, g⟩ := tI_of (t := fun _ _ _ => True) (fun S ds S' h => bind_val h) h
    cases d with
    | dct t ks vs =>
      cases t with
      | true => cases e2
      | false =>
        cases e2
        refine ⟨F, S, I, .val _, S', e1, fun H1 s v hv => ?_⟩
        obtain ⟨a, od, kvs, ev, h1, hi⟩ := it_keys s.env hv
        exact ⟨a, od, ev, .inl ⟨kvs, h1, g _ _ s hi⟩⟩
    | _ => cases e2
/-! ### zip -/
theorem it_zip {J : It} {q1 q2 : Addr} {xs ys : List V} {ds es : List D} (ne1 : c.pa ≠ some q1 ∧ H q1 ≠ none ∧ (bo = false → ¬ Bad F σ S.env q1)) (ne2 : c.pa ≠ some q2 ∧ H q2 ≠ none ∧ (bo = false → ¬ Bad F σ S.env q2))
    (r1 : RepL c.pa (Bad F σ S.env) H xs ds) (r2 : RepL c.pa (Bad F σ S.env) H ys es)
    (hgo : ∀ i H2 x y, H2 q1 = H q1 → H2 q2 = H q2 → xs[i]? = some x → ys[i]? = some y → J.go i H2) (hst : ∀ i H2, H2 q1 = H q1 → H2 q2 = H q2 → (xs.length ≤ i ∨ ys.length ≤ i) → J.stop i H2)
    (hy : ∀ i H2 v H3, H2 q1 = H q1 → H2 q2 = H q2 → J.yld i H2 v H3 → ∃ T x y, v = .ref T ∧ H2 T = none ∧ H3 = upd H2 T (.tup [x, y]) ∧ xs[i]? = some x ∧ ys[i]? = some y) : ItOk c.pa (Bad F σ S.env) bo J H (zipL ds es) := by
  refine ⟨fun b => b = q1 ∨ b = q2, fun b hb => ?_, fun i H2 B2 k hB same => ?_⟩
  · rcases hb with rfl | rfl
    · exact ne1
    · exact ne2
  · have s1 := same q1 (.inl rfl)
    have s2 := same q2 (.inr rfl)
    have hr1 := r1.kp k
    have hr2 := r2.kp k
    rw [zipL_len]
    refine ⟨fun hi => ?_, fun hi => ?_, fun x H3 y => ?_⟩
    · obtain ⟨d, hd⟩ := get_lt (show i < ds.length by omega)
      obtain ⟨e, he⟩ := get_lt (show i < es.length by omega)
      obtain ⟨w1, g1, _⟩ := hr1.get hd
      obtain ⟨w2, g2, _⟩ := hr2.get he
      exact hgo i H2 w1 w2 s1 s2 g1 g2
    · exact hst i H2 s1 s2 (by rw [r1.length, r2.length]; omega)
    · obtain ⟨T, x', y', ex, hT, eH, g1, g2⟩ := hy i H2 x H3 s1 s2 y
      subst ex eH
      refine ⟨Ext.new hT, fun d hd => ?_⟩
      rw [zipL_get] at hd
      obtain ⟨d0, hd0, hd⟩ := Option.bind_eq_some_iff.mp hd
      obtain ⟨e0, he0, rfl⟩ := Option.map_eq_some_iff.mp hd
      obtain ⟨w1, z1, z2⟩ := hr1.get hd0
      obtain ⟨w2, z3, z4⟩ := hr2.get he0
      rw [g1] at z1
      cases z1
      rw [g2] at z3
      cases z3
      exact pair_rep hB hT z2 z4
theorem zip_ok {es : List Expr} {kk : Nat} {tpos : Pos} (hg : Gl X "zip") (hm : X.mg "zip" = none) (ha : PE X a (tE c fz bo fa)) (hb : PE X b (tE c fz bo fb)) (hs : starEach [a, b] X.env = (false, eval a X.env) :: starEach [b] X.env) (hs2 : starEach [b] X.env = [(false, eval b X.env)]) :
    PI X (.Tuple es kk tpos) (.Call (.Name "zip" p) [a, b] [] pos) (tI c fz bo fun S => (fa S).bind fun (r, S) => (match r with
    | .val d => (fb S).bind fun (r, S) => (match r with
      | .val e => (zipD d e).map fun xs => (xs, S)
      | _ => none)
    | .exc _ _ => none)) :=
  PI.of (RZ.pi_zipA hg hm (pa_cons ha (pa_cons hb pa_nil (by rw [hs2]; rfl)) hs) hs (by rw [hs2]; rfl)) fun σ H R ⟨F, S, I, ds, S', e, g⟩ => by
    dsimp only at e
    obtain ⟨⟨r1, S1⟩, e1, e2⟩ := Option.bind_eq_some_iff.mp e
    cases r1 with
    | exc y d => cases e2
    | val d1 =>
      obtain ⟨⟨r2, S2⟩, e3, e4⟩ := Option.bind_eq_some_iff.mp (show ((fb S1).bind fun (x : Res × St') => (match x.1 with
        | .val e => (zipD d1 e).map fun xs => (xs, x.2)
        | _ => none)) = some (ds, S') from e2)
      cases r2 with
      | exc y d => cases e4
      | val d2 =>
        have e4 : (zipD d1 d2).map (fun xs => (xs, S2)) = some (ds, S') := e4
        obtain ⟨l, e5, e6⟩ := Option.map_eq_some_iff.mp e4
        cases e6
        refine ⟨F, S, I, .val d1, S1, e1, fun H1 s1 v hv => ⟨F, S1, s1.env, .val d2, _, e3, fun H2 s2 w hw => ?_⟩⟩
        have hv2 := hv.mv s2
        unfold zipD at e5
        split at e5
        · rename_i xs ys hl1 hl2
          cases e5
          have k1 : d1 = .lst xs := by cases d1 <;> first | (cases hl1; rfl) | cases hl1
          have k2 : d2 = .lst ys := by cases d2 <;> first | (cases hl2; rfl) | cases hl2
          subst k1 k2
          obtain ⟨q1, us, ev, hx1, hr1⟩ := hv2.b.lst
          obtain ⟨q2, ws, ew, hx2, hr2⟩ := hw.b.lst
          have np1 := hv2.nopot (xs := []) (o := .lst []) s2.env ev ⟨(fun z => nomatch z), fun _ z => nomatch z⟩
          have np2 := hw.nopot (xs := []) (o := .lst []) s2.env ew ⟨(fun z => nomatch z), fun _ z => nomatch z⟩
          subst ev ew
          refine ⟨q1, q2, us, ws, rfl, .inl ⟨SqL.of hx1, SqL.of hx2, g _ _ (s1.trans s2) ?_⟩⟩
          refine it_zip ⟨np1.1, by rw [hx1]; exact (fun z => nomatch z), np1.2⟩ ⟨np2.1, by rw [hx2]; exact (fun z => nomatch z), np2.2⟩ hr1 hr2 (fun i H3 x y z1 z2 g1 g2 => ⟨us, ws, x, y, SqL.of (z1.trans hx1), SqL.of (z2.trans hx2), g1, g2⟩) (fun i H3 z1 z2 h => ⟨us, ws, SqL.of (z1.trans hx1), SqL.of (z2.trans hx2), h⟩) fun i H3 v H4 z1 z2 y => ?_
          obtain ⟨T, x, y', ex, hT, eH, y1, y2⟩ := y
          exact ⟨T, x, y', ex, hT, eH, y1 us (SqL.of (z1.trans hx1)), y2 ws (SqL.of (z2.trans hx2))⟩
        · obtain ⟨xs, hd1, e5⟩ := Option.bind_eq_some_iff.mp e5
          obtain ⟨ys, hd2, rfl⟩ := Option.map_eq_some_iff.mp e5
          obtain ⟨q1, us, o1, ev, hx1, hq1, np1, nb1, hr1⟩ := it_at (K := X.K) s2.env hv2 hd1
          obtain ⟨q2, ws, o2, ew, hx2, hq2, np2, nb2, hr2⟩ := it_at (K := X.K) s2.env hw hd2
          subst ev ew
          refine ⟨q1, q2, us, ws, rfl, .inr ⟨hq1 _ hx1, hq2 _ hx2, g _ _ (s1.trans s2) ?_⟩⟩
          refine it_zip ⟨np1, by rw [hx1]; exact (fun z => nomatch z), nb1⟩ ⟨np2, by rw [hx2]; exact (fun z => nomatch z), nb2⟩ hr1 hr2 (fun i H3 x y z1 z2 g1 g2 => ⟨us, ws, x, y, hq1 _ (z1.trans hx1), hq2 _ (z2.trans hx2), g1, g2⟩) (fun i H3 z1 z2 h => ⟨us, ws, hq1 _ (z1.trans hx1), hq2 _ (z2.trans hx2), h⟩) fun i H3 v H4 z1 z2 y => ?_
          obtain ⟨T, x, y', ex, hT, eH, y1, y2⟩ := y
          exact ⟨T, x, y', ex, hT, eH, y1 us (hq1 _ (z1.trans hx1)), y2 ws (hq2 _ (z2.trans hx2))⟩
/-! ### a dict's comprehension -/
theorem putK_rep {pa : Option Addr} {B : AP} {H : Hp} {k : Key} {v : V} {d : D} (hv : Rep pa B H v d) {kvs : List (Key × V)} {ks vs : List D} (h3 : RepL pa B H (kvs.map fun p => kV p.1) ks) (h4 : RepL pa B H (kvs.map (·.2)) vs) :
    RepL pa B H ((putK kvs k v).map fun p => kV p.1) (putD ks vs (keyD k) d).1 ∧ RepL pa B H ((putK kvs k v).map (·.2)) (putD ks vs (keyD k) d).2 := by
  have hs := (look_k (k := k) h3 h4).isSome
  have ha := valV_any k kvs
  unfold putD putK
  rw [← hs, ha]
  cases q : (valV kvs k).isSome with
  | true =>
    obtain ⟨c1, c2⟩ := repl_k (k := k) hv h3 h4
    exact ⟨c1, c2⟩
  | false =>
    rw [if_neg (by decide), if_neg (by decide), List.map_append, List.map_append]
    exact ⟨h3.append (.cons (by cases k <;> first | exact .int _ | exact .str _) .nil), h4.append (.cons hv .nil)⟩
def dcBody (t : T) (ew : List SV) (fk fv : St' → Option (Res × St')) (x : D) (P : Pt) : Option ((D × D) × Pt) := (bindT t x ew).bind fun env => (fk ⟨env, P⟩).bind fun (r, S1) => (match r with
  | .val kd => (fv S1).bind fun (r, S2) => (match r with
    | .val d => some ((kd, d), S2.pot)
    | .exc _ _ => none)
  | .exc _ _ => none)
theorem putD_len {ks vs : List D} {k d : D} : (putD ks vs k d).1.length ≤ ks.length + 1 := by
  unfold putD
  split <;> simp
theorem dc_gen {vs : List Nat} {t : T} {fi : St' → Option (List D × St')} {fk fe : St' → Option (Res × St')} (hsl : ∀ i ∈ t.slots, i ∈ vs) {F : AP} {S S1 : St'} {items : List D} {ac : List D × List D} {P : Pt}
    (I : EnvR c F σ H S) (ei : fi S = some (items, S1)) (hl : items.length < LIM) (hno : vs.all (fun i => notOwn S1.env i) = true) (er : dcRun (dcBody t (wipeE S1.env vs) fk fe) items ([], []) S1.pot = some (ac, P))
    (g : ∀ D H1 Hc kvs, Stp c F σ fz H S H1 S1 → H1 D = none → StepE c.pa H1 Hc → PotR c.pa (fun a => F a ∨ a = D) Hc P → Hc D = some (.dK kvs) → RepL c.pa (Bad (fun a => F a ∨ a = D) (wipe σ vs) (wipeE S1.env vs)) Hc (kvs.map fun p => kV p.1) ac.1 → RepL c.pa (Bad (fun a => F a ∨ a = D) (wipe σ vs) (wipeE S1.env vs)) Hc (kvs.map (·.2)) ac.2 → Q (.ref D) Hc) :
    tDc (tI c fz true fi) (tG c.nox t) (tCn c.nox fun S => some (true, S.pot)) (tE c.nox false false fk) (tE c.nox false false fe) vs σ H Q := by
  refine ⟨F, S, I, items, S1, ei, fun J H1 s1 hJ D hD => ?_⟩
  obtain ⟨KS, hKS, hJ⟩ := hJ
  have I1 := s1.env
  have npD : c.pa ≠ some D := fun e => I1.dom D (I1.notpot e) hD
  have h0D : c.H0 D = none := by
    cases q : c.H0 D with
    | none => rfl
    | some o =>
      have := I1.keep D o q npD
      rw [hD] at this
      cases this
  generalize hew : wipeE S1.env vs = ew at er
  generalize hσw : wipe σ vs = σw
  have ow : ∀ a, Own σw ew a → Own σ S1.env a := fun a z => by
    rw [← hew, ← hσw] at z
    exact ownW I1 z
  have ow' : ∀ a, Own σ S1.env a → Own σw ew a := fun a z => by
    rw [← hew, ← hσw]
    exact ownW' I1 hno z
  have IE0 : EnvR c (fun a => F a ∨ a = D) σw (upd H1 D (.dK [])) ⟨ew, S1.pot⟩ := by
    rw [← hew, ← hσw]
    exact enter I1 hD
  refine ⟨fun i m Hc => m = items.length - i ∧ i ≤ items.length ∧ ∃ kvs ad Pi, Hc D = some (.dK kvs) ∧ RepL c.pa (Bad (fun a => F a ∨ a = D) σw ew) Hc (kvs.map fun p => kV p.1) ad.1 ∧ RepL c.pa (Bad (fun a => F a ∨ a = D) σw ew) Hc (kvs.map (·.2)) ad.2 ∧ ad.1.length ≤ i ∧
    dcRun (dcBody t ew fk fe) (items.drop i) ad Pi = some (ac, P) ∧ EnvR c (fun a => F a ∨ a = D) σw Hc ⟨ew, Pi⟩ ∧ StepE c.pa H1 Hc,
    ⟨items.length, by simp, Nat.zero_le _, [], ([], []), S1.pot, upd_same, .nil, .nil, Nat.zero_le _, er, IE0, StepE.new hD⟩, ?_⟩
  rintro i m Hc ⟨rfl, hi, kvs, ad, Pi, h1, h2, h2b, h3, h4, IE, st⟩
  have kp : Keep (Bad F σ S1.env) (Bad (fun a => F a ∨ a = D) σw ew) H1 Hc := fun a o ha na => by
    refine ⟨st.keep a o ha fun e => na (.inl (I1.notpot e)), fun z => ?_⟩
    rcases z with (z | z) | z
    · exact na (.inl z)
    · rw [z, hD] at ha
      cases ha
    · exact na (.inr (ow a z))
  have same : ∀ a, KS a → Hc a = H1 a := fun a ha => by
    cases q : H1 a with
    | none => exact absurd q (hKS a ha).2.1
    | some o => exact st.keep a o q (hKS a ha).1
  obtain ⟨hgo, hstop, hy⟩ := hJ i Hc _ kp IE.badDom same
  by_cases hlt : i < items.length
  · refine .inr ⟨hgo hlt, _, fun H' w => ⟨items.length - (i + 1), by omega, w⟩, fun x H' y => ?_⟩
    obtain ⟨ex, rx⟩ := hy x H' y
    obtain ⟨d, hd⟩ := get_lt hlt
    have rx := rx d hd
    have IE' := IE.ext ex
    have ed : items.drop i = d :: items.drop (i + 1) := by
      rw [List.drop_eq_getElem_cons hlt]
      rw [List.getElem?_eq_getElem hlt] at hd
      rw [Option.some.inj hd]
    rw [ed] at h4
    obtain ⟨⟨⟨kd, vd⟩, P1⟩, hb, h4⟩ := Option.bind_eq_some_iff.mp (show ((dcBody t ew fk fe d Pi).bind fun (y : (Ev.D × Ev.D) × Pt) => if isK y.1.1 then dcRun (dcBody t ew fk fe) (items.drop (i + 1)) (putD ad.1 ad.2 y.1.1 y.1.2) y.2 else none) = some (ac, P) from h4)
    dsimp only at h4
    split at h4
    case isFalse => cases h4
    rename_i hk
    obtain ⟨env2, eb, hb⟩ := Option.bind_eq_some_iff.mp (show ((bindT t d ew).bind fun env => (fk ⟨env, Pi⟩).bind fun (w : Res × St') => (match w.1 with
      | .val kd => (fe w.2).bind fun (w2 : Res × St') => (match w2.1 with
        | .val d => some ((kd, d), w2.2.pot)
        | .exc _ _ => none)
      | .exc _ _ => none)) = some ((kd, vd), P1) from hb)
    obtain ⟨⟨r3, S3⟩, ek, hb⟩ := Option.bind_eq_some_iff.mp hb
    cases r3 with
    | exc y d => cases hb
    | val kd' =>
    obtain ⟨⟨r4, S4⟩, ef, hb⟩ := Option.bind_eq_some_iff.mp (show ((fe S3).bind fun (w2 : Res × St') => (match w2.1 with
        | .val d => some ((kd', d), w2.2.pot)
        | .exc _ _ => none)) = some ((kd, vd), P1) from hb)
    cases r4 with
    | exc y d => cases hb
    | val vd' =>
    cases hb
    obtain ⟨k, rfl⟩ := isK_key hk
    have kD : ∀ {Ha Hb : Hp} {z : HO}, StepE c.pa Ha Hb → Ha D = some z → Hb D = some z := fun s z => s.keep D _ z npD
    have h1' : H' D = some (.dK kvs) := ex D _ h1
    refine ⟨_, ⟨ew, Pi⟩, d, env2, IE'.nox, rx, eb, fun σ2 t2 => ⟨(t2.same vs hsl).trans (by rw [← hσw, wipe_wipe]), ?_⟩⟩
    refine ⟨_, ⟨env2, Pi⟩, t2.env, true, Pi, rfl, fun H3 S3' s3 ep => ?_⟩
    show (if true = true then _ else _)
    rw [if_pos rfl]
    have p3 : PotR c.pa (fun a => F a ∨ a = D) H3 Pi := by
      rw [← ep]
      exact s3.env.pot
    have IE3 : EnvR c (fun a => F a ∨ a = D) σw H3 ⟨ew, Pi⟩ := IE'.step s3.st p3
    have I3 : EnvR c.nox (fun a => F a ∨ a = D) σ2 H3 ⟨env2, Pi⟩ := t2.env.step s3.st p3
    refine ⟨_, ⟨env2, Pi⟩, I3, .val (keyD k), S3, ek, fun H4 s4 yk hyk => ?_⟩
    refine ⟨_, S3, s4.env, .val vd, S4, ef, fun H5 s5 yv hv => ?_⟩
    have eyk : yk = kV k := key_rep (hyk.rep)
    have st5 : StepE c.pa H' H5 := (s3.st.trans s4.st).trans s5.st
    have h5D : H5 D = some (.dK kvs) := kD st5 h1'
    refine ⟨kvs, k, eyk, h5D, by rw [show kvs.length = ad.1.length by rw [← h2.length, List.length_map], lim_eq]; omega, ?_⟩
    have b2 : ∀ a, Own σw ew a → Own σ2 S3.env a := fun a z => s4.fr rfl a (t2.back (fun j hj => by
      have hj2 := hsl j hj
      unfold notOwn
      show (match ew[j]? with
        | some (.own _) => false
        | some (.od _ _ _) => false
        | _ => true) = true
      rw [← hew, wipeE_get]
      by_cases hjl : j < S1.env.length
      · rw [if_pos ⟨hj2, hjl⟩]
      · rw [if_neg (fun z => hjl z.2), List.getElem?_eq_none (by omega)]) a z)
    have b5 : ∀ a, Own σw ew a → Own σ2 S4.env a := fun a z => s5.fr rfl a (b2 a z)
    have kp3 : Keep (Bad (fun a => F a ∨ a = D) σw ew) (Bad (fun a => F a ∨ a = D) σw ew) Hc (upd H5 D (.dK (putK kvs k yv))) := fun a u ha na => by
      refine ⟨by rw [upd_ne (fun z => na (.inl (.inr z)))]; exact st5.keep a u (ex a u ha) fun e => na (.inl (IE.notpot e)), na⟩
    have kp5 : Keep (Bad (fun a => F a ∨ a = D) σ2 S4.env) (Bad (fun a => F a ∨ a = D) σw ew) H5 (upd H5 D (.dK (putK kvs k yv))) := fun a u ha na => by
      refine ⟨by rw [upd_ne (fun z => na (.inl (.inr z)))]; exact ha, fun z => na (z.elim .inl fun w => .inr (b5 a w))⟩
    have IE5 : EnvR c (fun a => F a ∨ a = D) σw H5 ⟨ew, S4.pot⟩ := IE3.step (s4.st.trans s5.st) s5.env.pot
    obtain ⟨g1, g2⟩ := putK_rep (k := k) (hv.rep.kp kp5) (h2.kp kp3) (h2b.kp kp3)
    show items.length - (i + 1) = _ ∧ _
    refine ⟨rfl, hlt, _, _, S4.pot, upd_same, g1, g2, ?_, h4, IE5.mutD (.inr rfl) npD h0D, ?_⟩
    · have := putD_len (ks := ad.1) (vs := ad.2) (k := keyD k) (d := vd)
      omega
    · have st6 := st.trans (ex.step.trans st5)
      refine ⟨fun a o ha na => by rw [upd_ne (ne_of_none ha hD)]; exact st6.keep a o ha na, fun a ha => ?_⟩
      by_cases z : a = D
      · rw [z, upd_same]
        exact fun q => nomatch q
      · rw [upd_ne z]
        exact st6.dom a ha
  · have ei2 : i = items.length := by omega
    subst ei2
    rw [List.drop_length] at h4
    cases h4
    refine .inl ⟨hstop (Nat.le_refl _), ?_⟩
    refine g D H1 Hc kvs s1 hD st IE.pot h1 ?_ ?_
    · rw [hew, hσw]
      exact h2
    · rw [hew, hσw]
      exact h2b
theorem dc_read {vs : List Nat} {t : T} {fi : St' → Option (List D × St')} {fk fe : St' → Option (Res × St')} (hsl : ∀ i ∈ t.slots, i ∈ vs)
    (h : tE c fz bo (fun S => (fi S).bind fun (items, S) => if items.length < LIM ∧ vs.all (fun i => notOwn S.env i) = true then (dcRun (dcBody t (wipeE S.env vs) fk fe) items ([], []) S.pot).map fun (a, P) => (.val (.dct false a.1 a.2), ⟨S.env, P⟩) else none) σ H Q) :
    tNewL (tDc (tI c fz true fi) (tG c.nox t) (tCn c.nox fun S => some (true, S.pot)) (tE c.nox false false fk) (tE c.nox false false fe) vs) σ H Q := by
  obtain ⟨F, S, I, r, S', e, g⟩ := h
  dsimp only at e
  obtain ⟨⟨items, S1⟩, ei, e⟩ := Option.bind_eq_some_iff.mp e
  dsimp only at e
  split at e
  case isFalse => cases e
  rename_i hl
  obtain ⟨hl, hno⟩ := hl
  obtain ⟨⟨ac, P⟩, er, e⟩ := Option.map_eq_some_iff.mp e
  cases e
  refine dc_gen hsl I ei hl hno er fun D H1 Hc kvs s1 hD st hp h1 h2 h3 => ?_
  refine ⟨D, _, rfl, h1, trivial, fun od => ?_⟩
  have npD : c.pa ≠ some D := fun e => s1.env.dom D (s1.env.notpot e) hD
  have kpD : ∀ {B B' : AP}, B D → (∀ a, B' a → B a) → Keep B B' Hc (upd Hc D (.frz od (.dK kvs))) := fun hb hs a u ha na => ⟨by rw [upd_ne (fun z => na (by rw [z]; exact hb))]; exact ha, fun z => na (hs a z)⟩
  have st2 : StepE c.pa H1 (upd Hc D (.frz od (.dK kvs))) := by
    refine ⟨fun a o ha na => by rw [upd_ne (ne_of_none ha hD)]; exact st.keep a o ha na, fun a ha => ?_⟩
    by_cases z : a = D
    · rw [z, upd_same]
      exact fun q => nomatch q
    · rw [upd_ne z]
      exact st.dom a ha
  have hp2 : PotR c.pa (fun a => F a ∨ a = D) (upd Hc D (.frz od (.dK kvs))) P := fun r e => ⟨(hp r e).1, by rw [upd_ne (fun z => npD (by rw [e, z]))]; exact (hp r e).2⟩
  have less : ∀ a, Bad F σ S1.env a → Bad (fun a => F a ∨ a = D) (wipe σ vs) (wipeE S1.env vs) a := fun a z => z.elim (fun w => .inl (.inl w)) fun w => .inr (ownW' s1.env hno w)
  exact g _ (s1.trans (s1.env.sub st2 hp2)) _ (.inl (.dct upd_same ⟨od, _, rfl, kvs, rfl, rfl, rfl⟩ (s1.env.badDom.fresh hD) (h2.kp (kpD (.inl (.inr rfl)) less)) (h3.kp (kpD (.inl (.inr rfl)) less))))
theorem dc_ok {kx vx tg iter : Expr} {scope : Scope} {own : List (Str × Nat)} {t : T} {fi : St' → Option (List D × St')} {fk fe : St' → Option (Res × St')} (hc : X.calm = true) (hN : X.N.Nodup) (hi : PI X tg iter (tI c fz true fi)) (ok : BlkOk X.N X.env.scope scope own)
    (hg : ∀ (s : Shared) (H : Hp) (C : Addr) (cl : List (Str × Addr)) (fp : List Addr), PG (X.blk s H scope (compEnvC scope cl C X.env) fp) tg (tG c.nox t))
    (hk : ∀ (s : Shared) (H : Hp) (C : Addr) (cl : List (Str × Addr)) (fp : List Addr), PE (X.blk s H scope (compEnvC scope cl C X.env) fp) kx (tE c.nox false false fk))
    (he : ∀ (s : Shared) (H : Hp) (C : Addr) (cl : List (Str × Addr)) (fp : List Addr), PE (X.blk s H scope (compEnvC scope cl C X.env) fp) vx (tE c.nox false false fe)) (hs : ∀ x, foldedSetIterable iter X.env x = pure x) (hsl : ∀ i ∈ t.slots, i ∈ own.map (·.2)) :
    PE X (.DictComp kx vx [⟨tg, iter, [], 0⟩] scope pos) (tE c fz bo (fun S => (fi S).bind fun (items, S) => if items.length < LIM ∧ (own.map (·.2)).all (fun i => notOwn S.env i) = true then (dcRun (dcBody t (wipeE S.env (own.map (·.2))) fk fe) items ([], []) S.pot).map fun (a, P) => (.val (.dct false a.1 a.2), ⟨S.env, P⟩) else none)) :=
  PE.of (pe_newL (pe_dc hc hN hi ok hg (fun s H C cl fp => cnNo_ok) hk he hs)) fun σ H Q q => dc_read hsl q
end
end Ev

set_option Elab.async false
set_option linter.all false
set_option maxRecDepth 100000
set_option maxHeartbeats 4000000
/-! Ev13: the check of an expression against the small syntax; what is checked evaluates so. -/
namespace Ev
open PySem PySem.Spec PyProof.Rows L2

/-! ### facts of the text's form -/
def notStar : Expr → Bool
  | .Starred _ _ => false
  | _ => true
theorem starEach_cons {e : Expr} {es : List Expr} {env : Env} (h : notStar e = true) : starEach (e :: es) env = (false, eval e env) :: starEach es env := by
  cases e <;> first | rfl | cases h
theorem starEach_star {e : Expr} {p : Pos} {es : List Expr} {env : Env} : starEach (.Starred e p :: es) env = (true, eval e env) :: starEach es env := rfl
theorem noStar_any {env : Env} {pos : Pos} : ∀ {es : List Expr}, es.all notStar = true → (backTo pos (starEach es env)).any (·.1) = false
  | [], _ => rfl
  | e :: es, h => by
    rw [List.all_cons, Bool.and_eq_true] at h
    rw [starEach_cons h.1]
    show (false || (backTo pos (starEach es env)).any (·.1)) = false
    rw [noStar_any h.2]
    rfl
def plainT : Expr → Bool
  | .UnaryOp .Not _ _ => false
  | .BoolOp _ _ _ => false
  | .IfExp _ _ _ _ => false
  | .Compare _ _ _ _ => false
  | _ => true
theorem plainT_ok {e : Expr} {env : Env} (h : plainT e = true) : ∀ whole, isTrue e env whole = (do let v ← whole; standAt e.pos; holding [v] (truthy v)) := by
  intro whole
  cases e with
  | UnaryOp op a p => cases op <;> first | rfl | cases h
  | _ => first | rfl | cases h
def notSet : Expr → Bool
  | .Set _ _ _ => false
  | _ => true
theorem notSet_ok {e : Expr} {env : Env} (h : notSet e = true) : ∀ x, foldedSetIterable e env x = pure x := by
  intro x
  cases e <;> first | rfl | cases h
def notSlice : Expr → Bool
  | .Slice _ _ _ _ => false
  | _ => true
theorem notSlice_ok {e : Expr} (h : notSlice e = true) : PlainIx e := by
  intro o i
  cases e <;> first | rfl | cases h
def notBare : Expr → Bool
  | .Call _ [] [] _ => false
  | _ => true
theorem notBare_ok {e : Expr} {n : Str} {env : Env} {w : Sem Value} (h : notBare e = true) : attributeBase e n env w = w := by
  cases e with
  | Call f as ks p =>
    cases as with
    | nil =>
      cases ks with
      | nil => cases h
      | cons k ks => cases f <;> rfl
    | cons a as => cases f <;> rfl
  | _ => rfl
theorem assign_cons {e : Expr} {es : List Expr} {env : Env} (h : notStar e = true) : assignEach (e :: es) env = (false, assign e env) :: assignEach es env := by
  cases e <;> first | rfl | cases h
theorem assign_len {env : Env} : ∀ {es : List Expr}, es.all notStar = true → (assignEach es env).length = es.length ∧ (assignEach es env).findIdx? (·.1) = none
  | [], _ => ⟨rfl, rfl⟩
  | e :: es, h => by
    rw [List.all_cons, Bool.and_eq_true] at h
    obtain ⟨h1, h2⟩ := assign_len (env := env) h.2
    rw [assign_cons h.1, List.length_cons, List.length_cons, h1]
    refine ⟨rfl, ?_⟩
    rw [List.findIdx?_cons]
    simp [h2]

/-! ### the check -/
structure SC where
  N : List Str
  sc : Scope
  fn : Str → Bool
structure GC where
  gl : Str → D → Bool
  fs : Str → Bool
def SC.vis (k : SC) (x : Str) : Bool := (match k.sc.names.lookup x with
  | some .local => true
  | some .cell => true
  | some .free => true
  | _ => false) && !(x == ("__debug__" : Str)) && !(x == ("__classdict__" : Str))
def SC.glob (k : SC) (x : Str) : Bool := decide (k.sc.names.lookup x = some .globalImplicit) && !(x == ("__debug__" : Str))
def SC.tgt (k : SC) (x : Str) : Bool := match k.sc.names.lookup x with
  | some .local => true
  | some .cell => k.fn x
  | _ => false
def SC.blk (k : SC) (scope : Scope) : SC := ⟨k.N, relS scope k.sc, fun x => scope.names.lookup x == some .cell⟩
def SC.own (k : SC) (is : List Nat) : List (Str × Nat) := is.map fun i => ((k.N[i]?).getD "", i)
def conOk : D → Const → Bool
  | .int i, .int j => decide (i = j)
  | .str x, .str y => decide (x = y)
  | .bl b, .bool c => decide (b = c)
  | .non, .none => true
  | _, _ => false
mutual
def chkT (k : SC) : T → Expr → Bool
  | .nm i, .Name x _ => decide (k.N[i]? = some x) && k.tgt x
  | .tup ts, .Tuple xs _ _ => chkTs k ts xs && xs.all notStar && decide (xs.length = ts.len)
  | _, _ => false
def chkTs (k : SC) : Ts → List Expr → Bool
  | .nil, [] => true
  | .cons t r, x :: xs => notStar x && chkT k t x && chkTs k r xs
  | _, _ => false
end
section
variable (g : GC)
mutual
def chkE : E → SC → Expr → Bool
  | .slot i, k, .Name x _ => decide (k.N[i]? = some x) && k.vis x
  | .con d, _, .Constant c _ _ => conOk d c
  | .glo x d, k, .Name y _ => decide (x = y) && k.glob y && g.gl y d
  | .tup es, k, .Tuple xs _ _ => chkEs es k xs
  | .lst es, k, .List xs _ => chkEs es k xs
  | .bin o a b, k, .BinOp x op y _ => decide (o.op = op) && chkE a k x && chkE b k y
  | .cmp o a b, k, .Compare x [op] [y] _ => decide (o.op = op) && !behindInMarks op y && chkE a k x && chkE b k y
  | .chn o p a b c, k, .Compare x [op, op'] [y, z] _ => decide (o.op = op) && decide (p.op = op') && !lastMarks [op, op'] [y, z] && chkE a k x && chkE b k y && chkE c k z
  | .and es, k, .BoolOp .And xs _ => chkBs es k xs
  | .or es, k, .BoolOp .Or xs _ => chkBs es k xs
  | .not a, k, .UnaryOp .Not x _ => chkE a k x
  | .neg a, k, .UnaryOp .USub x _ => chkE a k x
  | .ife c a b, k, .IfExp x y z _ => chkE c k x && chkE a k y && chkE b k z
  | .idx a i, k, .Subscript x y _ => notSlice y && chkE a k x && chkE i k y
  | .slc a lo hi, k, .Subscript x (.Slice l h none _) _ => chkE a k x && chkO lo k l && chkO hi k h
  | .bi b es, k, .Call (.Name f _) (x :: xs) [] _ => decide (f = b.nm) && k.glob f && notStar x && xs.all notStar && chkEs es k (x :: xs)
  | .sset a, k, .Call (.Name f _) [.Call (.Name h _) [x] [] _] [] _ => decide (f = "sorted") && decide (h = "set") && k.glob f && k.glob h && notStar x && chkE a k x
  | .isi t a, k, .Call (.Name f _) [x, .Name h _] [] _ => decide (f = "isinstance") && decide (h = t.nm) && k.glob f && k.glob h && notStar x && chkE a k x
  | .cal f es, k, .Call (.Name h _) xs [] _ => decide (f = h) && k.glob h && g.fs h && xs.all notStar && chkEs es k xs
  | .mix r a, k, .Call (.Attribute x m apos) [y] [] cpos => decide (m = "index") && notBare x && decide ((apos.endLine == cpos.line) = true) && notStar y && chkE r k x && chkE a k y
  | .pget i j, k, .Subscript (.Name x _) (.Constant (.int m) _ _) _ => decide (k.N[i]? = some x) && k.vis x && decide (j = m)
  | .lc elt t it c own, k, .ListComp x [⟨tg, iter, ifs, 0⟩] scope _ => blkC k.N k.sc scope (k.own own) && t.slots.all (fun i => decide (i ∈ own)) && notSet iter && chkT (k.blk scope) t tg && chkI it k iter tg && chkC c (k.blk scope) ifs && chkE elt (k.blk scope) x
  | .lr1 a, k, .Call (.Name f _) [.Call (.Name h _) [x] [] _] [] _ => decide (f = "list") && decide (h = "range") && k.glob f && k.glob h && notStar x && chkE a k x
  | .rev a, k, .Subscript x (.Slice none none (some (.UnaryOp .USub (.Constant (.int m) _ _) _)) _) _ => decide (m = 1) && chkE a k x
  | .dc kx vx t it own, k, .DictComp x y [⟨tg, iter, [], 0⟩] scope _ => blkC k.N k.sc scope (k.own own) && t.slots.all (fun i => decide (i ∈ own)) && notSet iter && chkT (k.blk scope) t tg && chkI it k iter tg && chkE kx (k.blk scope) x && chkE vx (k.blk scope) y
  | _, _, _ => false
def chkEs : Es → SC → List Expr → Bool
  | .nil, _, [] => true
  | .cons false e r, k, x :: xs => notStar x && chkE e k x && chkEs r k xs
  | .cons true e r, k, .Starred x _ :: xs => chkE e k x && chkEs r k xs
  | _, _, _ => false
def chkBs : Es → SC → List Expr → Bool
  | .cons _ e .nil, k, [x] => chkE e k x
  | .cons _ e (.cons s e2 r), k, x :: y :: ys => chkE e k x && chkBs (.cons s e2 r) k (y :: ys)
  | _, _, _ => false
def chkO : Eo → SC → Option Expr → Bool
  | .no, _, none => true
  | .so e, k, some x => chkE e k x
  | _, _, _ => false
def chkC : Eo → SC → List Expr → Bool
  | .no, _, [] => true
  | .so e, k, [x] => chkE e k x
  | _, _, _ => false
def chkI : Itr → SC → Expr → Expr → Bool
  | .seq e, k, x, _ => chkE e k x
  | .rng1 e, k, .Call (.Name f _) [x] [] _, _ => decide (f = "range") && k.glob f && notStar x && chkE e k x
  | .rng2 a b, k, .Call (.Name f _) [x, y] [] _, _ => decide (f = "range") && k.glob f && notStar x && notStar y && chkE a k x && chkE b k y
  | .enum e, k, .Call (.Name f _) [x] [] _, .Tuple _ _ _ => decide (f = "enumerate") && k.glob f && notStar x && chkE e k x
  | .zip a b, k, .Call (.Name f _) [x, y] [] _, .Tuple _ _ _ => decide (f = "zip") && k.glob f && notStar x && notStar y && chkE a k x && chkE b k y
  | .keys e, k, x, _ => chkE e k x
  | _, _, _, _ => false
end
end

/-! ### contexts -/
def bltNames : List Str := ["len", "abs", "int", "tuple", "list", "all", "any", "sum", "max", "min", "sorted", "set", "range", "enumerate", "zip", "isinstance", "bool", "str", "dict", "repr"]
structure XOk (c : Ct) (Φ : Str → Option Fn) (g : GC) (X : Cx) (k : SC) : Prop where
  N : X.N = k.N
  nd : X.N.Nodup
  sc : X.env.scope = k.sc
  fn : X.fn = k.fn
  calm : X.calm = true
  hu : X.A.units + 64 < cLine
  gd : X.A.guards = some []
  blt : ∀ x ∈ bltNames, X.mg x = none
  glo : ∀ x d, g.gl x d = true → ∃ v u, X.mg x = some u ∧ RelV v u ∧ ∀ B H, Rep c.pa B H v d
  cal : ∀ f, g.fs f = true → ∃ F, Φ f = some F ∧ CalOk X c.xe f F
section
variable {c : Ct} {Φ : Str → Option Fn} {g : GC} {X : Cx} {k : SC}
theorem XOk.blk (ok : XOk c Φ g X k) (s : Shared) (H : Hp) (scope : Scope) (C : Addr) (cl : List (Str × Addr)) (fp : List Addr) : XOk c.nox Φ g (X.blk s H scope (compEnvC scope cl C X.env) fp) (k.blk scope) where
  N := ok.N
  nd := ok.nd
  sc := by
    show relS scope X.env.scope = relS scope k.sc
    rw [ok.sc]
  fn := rfl
  calm := ok.calm
  hu := ok.hu
  gd := ok.gd
  blt := ok.blt
  glo := ok.glo
  cal := fun f h => by
    obtain ⟨F, e, CX, j, a, fd, ps, h1, h2, h2g, h3, h4, h5, h6, h7⟩ := ok.cal f h
    exact ⟨F, e, CX, j, a, fd, ps, h1, h2, h2g, h3, h4, h5, fun pins σ H s e s' I q => (h7 _ _ _ _ _ q).elim, h7⟩
theorem XOk.gl (ok : XOk c Φ g X k) {x : Str} (h : k.glob x = true) : Gl X x ∧ (x == ("__debug__" : Str)) = false := by
  unfold SC.glob at h
  rw [Bool.and_eq_true] at h
  refine ⟨?_, by simpa using h.2⟩
  show X.env.scope.names.lookup x = _
  rw [ok.sc]
  exact of_decide_eq_true h.1
theorem XOk.vs (ok : XOk c Φ g X k) {x : Str} (h : k.vis x = true) : Vis X.env.scope x ∧ (x == ("__debug__" : Str)) = false ∧ (x == ("__classdict__" : Str)) = false := by
  unfold SC.vis at h
  rw [Bool.and_eq_true, Bool.and_eq_true] at h
  refine ⟨?_, by simpa using h.1.2, by simpa using h.2⟩
  unfold Vis
  rw [ok.sc]
  have q := h.1.1
  split at q
  · exact .inl (by assumption)
  · exact .inr (.inl (by assumption))
  · exact .inr (.inr (by assumption))
  · cases q
theorem XOk.tg (ok : XOk c Φ g X k) {x : Str} (h : k.tgt x = true) : L2.Loc X.env.scope x ∧ (X.fn x = true ∨ X.env.scope.names.lookup x = some .local) := by
  unfold SC.tgt at h
  unfold L2.Loc
  rw [ok.sc, ok.fn]
  split at h
  · exact ⟨.inl (by assumption), .inr (by assumption)⟩
  · exact ⟨.inr (by assumption), .inl h⟩
  · cases h
mutual
theorem T.ok (ok : XOk c Φ g X k) : ∀ (t : T) {x : Expr}, chkT k t x = true → PG X x (tG c t)
  | .nm i, .Name x p, h => by
    rw [chkT, Bool.and_eq_true] at h
    obtain ⟨q1, q2⟩ := ok.tg h.2
    exact nm_ok ok.nd (by rw [ok.N]; exact of_decide_eq_true h.1) q1 q2
  | .tup ts, .Tuple xs n p, h => by
    rw [chkT, Bool.and_eq_true, Bool.and_eq_true] at h
    obtain ⟨q1, q2⟩ := assign_len (env := X.env) h.1.2
    exact ttup_ok ok.calm (Ts.ok ok ts h.1.1) (q1.trans (of_decide_eq_true h.2)) q2
theorem Ts.ok (ok : XOk c Φ g X k) : ∀ (t : Ts) {xs : List Expr}, chkTs k t xs = true → PGs X xs (tGs c t)
  | .nil, [], _ => tsNil_ok
  | .nil, _ :: _, h => by simp [chkTs] at h
  | .cons t r, [], h => by simp [chkTs] at h
  | .cons t r, x :: xs, h => by
    rw [chkTs, Bool.and_eq_true, Bool.and_eq_true] at h
    exact tsCons_ok (T.ok ok t h.1.2) (Ts.ok ok r h.2) (by rw [assign_cons h.1.1]; rfl)
end
end
end Ev

set_option Elab.async false
set_option linter.all false
set_option maxRecDepth 100000
set_option maxHeartbeats 4000000
/-! Ev14: what is checked evaluates so. -/
namespace Ev
open PySem PySem.Spec PyProof.Rows L2
section
variable {Φ : Str → Option Fn} {g : GC}
theorem pt_of {c : Ct} {X : Cx} {x : Expr} {e : E} (h : ∀ bo fz, PE X x (tE c fz bo (ev Φ e bo fz))) (hp : plainT x = true) :
    (∀ bo fz, PE X x (tE c fz bo (ev Φ e bo fz))) ∧ (∀ fz, PT X x (tT c fz (ev Φ e true fz))) := ⟨h, fun fz => truth_ok (h true fz) (plainT_ok hp)⟩
theorem con_inv {X : Cx} {d : D} {k : Const} {n : Nat} {p : Pos} (h : conOk d k = true) : ∃ v, PE X (.Constant k n p) (tC v) ∧ ∀ pa B H, Rep pa B H v d := by
  cases d with
  | int i =>
    cases k with
    | int j =>
      have e : i = j := of_decide_eq_true h
      subst e
      exact ⟨_, pe_int, fun _ _ _ => .int _⟩
    | _ => cases h
  | str i =>
    cases k with
    | str j =>
      have e : i = j := of_decide_eq_true h
      subst e
      exact ⟨_, pe_str, fun _ _ _ => .str _⟩
    | _ => cases h
  | bl i =>
    cases k with
    | bool j =>
      have e : i = j := of_decide_eq_true h
      subst e
      exact ⟨_, pe_bl, fun _ _ _ => .bl _⟩
    | _ => cases h
  | non =>
    cases k with
    | none => exact ⟨_, pe_non, fun _ _ _ => .non⟩
    | _ => cases h
  | _ => cases k <;> cases h
theorem cmpD_eq (o : COp) : cmpD o = fun x y => (cmpB o x y).map D.bl := rfl
theorem isPot_of {o : Option SV} (h : isPot o = true) : o = some (.val .pot) := by
  unfold isPot at h
  split at h
  · rfl
  · cases h
theorem pget_ok {c : Ct} {X : Cx} {x : Str} {i : Nat} {m : Int} {fz bo : Bool} {p pos : Pos} {p2 : Nat} {p3 : Pos} (hN : X.N[i]? = some x) (hv : Vis X.env.scope x) (hd : (x == ("__debug__" : Str)) = false) (hcd : (x == ("__classdict__" : Str)) = false) :
    PE X (.Subscript (.Name x p) (.Constant (.int m) p2 p3) pos) (tE c fz bo fun S => if isPot (S.env[i]?) then (S.pot.cell m).map fun n => (.val (.int n), S) else none) := by
  refine PE.of (pe_ix ix_list (pe_var hN hv hd hcd) pe_int (notSlice_ok rfl)) fun σ H Q ⟨F, S, I, r, S', e, g⟩ => ?_
  dsimp only at e
  split at e
  case isFalse => cases e
  rename_i hp
  obtain ⟨n, e1, e2⟩ := Option.map_eq_some_iff.mp e
  cases e2
  obtain ⟨v, h1, h2⟩ := I.val i .pot (isPot_of hp)
  cases h2 with
  | pot hpa =>
    obtain ⟨_, h3⟩ := I.pot _ hpa
    refine ⟨_, h1, _, _, m, .int n, rfl, rfl, SqL.of h3, ?_, g H (Stp.refl I) _ (.inl (.int _))⟩
    unfold Pt.cell at e1
    split at e1
    · rename_i hm; subst hm; cases e1; rfl
    · split at e1
      · rename_i hm; subst hm; cases e1; rfl
      · split at e1
        · rename_i hm; subst hm; cases e1; rfl
        · cases e1
theorem own_map (k : SC) (is : List Nat) : (k.own is).map (·.2) = is := by
  unfold SC.own
  rw [List.map_map]
  show is.map (fun i => i) = is
  exact List.map_id' is
theorem blt_of {X : Cx} {c : Ct} {k : SC} (ok : XOk c Φ g X k) (b : BI) : X.mg b.nm = none := by
  cases b <;> exact ok.blt _ (by decide)
theorem ty_of {X : Cx} {c : Ct} {k : SC} (ok : XOk c Φ g X k) (t : Ty) : X.mg t.nm = none := by
  cases t <;> exact ok.blt _ (by decide)
theorem chnT_ok {c : Ct} {X : Cx} {a : Expr} {fz : Bool} {fa fb fc : St' → Option (Res × St')} {g g' : D → D → Option Bool}
    (h : PT X a (tTest (tChain (r2P fun x y => (g x y).map D.bl) (r2P fun x y => (g' x y).map D.bl) (tE c fz true fa) (tE c fz true fb) (tE c fz true fc)))) :
    PT X a (tT c fz fun S => bindR (fa S) fun x S => bindR (fb S) fun y S => (g x y).bind fun k => if k then bindR (fc S) fun z S => pureV ((g' y z).map D.bl) S else some (.val (.bl false), S)) := by
  refine PT.of h fun σ H Q h => ?_
  refine chn_read (bo := false) ?_
  obtain ⟨F, S, I, r, S', e, hk, gg⟩ := h
  refine ⟨F, S, I, r, S', e, fun H' s => ?_⟩
  have q := gg H' s
  cases r with
  | val d =>
    intro v hv
    obtain ⟨k, e1, q⟩ := q
    have hd : ∃ b, d = .bl b := by
      dsimp only at e
      generalize fa S = o1 at e
      cases o1 with
      | none => cases e
      | some p1 =>
        obtain ⟨r1, S1⟩ := p1
        cases r1 with
        | exc _ _ => cases e
        | val d1 =>
          have e : bindR (fb S1) (fun y S => (g d1 y).bind fun k => if k then bindR (fc S) fun z S => pureV ((g' y z).map D.bl) S else some (.val (.bl false), S)) = some (.val d, S') := e
          generalize fb S1 = o2 at e
          cases o2 with
          | none => cases e
          | some p2 =>
            obtain ⟨r2, S2⟩ := p2
            cases r2 with
            | exc _ _ => cases e
            | val d2 =>
              have e : (g d1 d2).bind (fun k => if k then bindR (fc S2) fun z S => pureV ((g' d2 z).map D.bl) S else some (.val (.bl false), S2)) = some (.val d, S') := e
              obtain ⟨k2, _, e⟩ := Option.bind_eq_some_iff.mp e
              cases k2 with
              | false => cases e; exact ⟨_, rfl⟩
              | true =>
                have e : bindR (fc S2) (fun z S => pureV ((g' d2 z).map D.bl) S) = some (.val d, S') := e
                generalize fc S2 = o4 at e
                cases o4 with
                | none => cases e
                | some p3 =>
                  obtain ⟨r3, S3⟩ := p3
                  cases r3 with
                  | exc _ _ => cases e
                  | val d3 =>
                    have e : ((g' d2 d3).map D.bl).map (fun d => (Res.val d, S3)) = some (.val d, S') := e
                    generalize g' d2 d3 = o3 at e
                    cases o3 with
                    | none => cases e
                    | some b => cases e; exact ⟨b, rfl⟩
    obtain ⟨b, rfl⟩ := hd
    cases Option.some.inj e1
    have ev := hv.b.bl
    subst ev
    exact ⟨_, rfl, q⟩
  | exc y d => exact q
def EOk (Φ : Str → Option Fn) (g : GC) (e : E) : Prop := ∀ (c : Ct) (X : Cx) (k : SC) (x : Expr), XOk c Φ g X k → chkE g e k x = true →
    (∀ bo fz, PE X x (tE c fz bo (ev Φ e bo fz))) ∧ (∀ fz, PT X x (tT c fz (ev Φ e true fz)))
structure EsOk (Φ : Str → Option Fn) (g : GC) (es : Es) : Prop where
  arg : ∀ {c : Ct} {X : Cx} {k : SC} {xs : List Expr}, XOk c Φ g X k → chkEs g es k xs = true → ∀ bo fz, PA X xs (tA c fz bo (evs Φ es bo fz))
  and : ∀ {c : Ct} {X : Cx} {k : SC} {xs : List Expr} {p : Pos}, XOk c Φ g X k → chkBs g es k xs = true → (∀ bo fz, PE X (.BoolOp .And xs p) (tE c fz bo (evAnd Φ es bo fz))) ∧ (∀ fz, PW X (.BoolOp .And xs p) (tT c fz (evAnd Φ es true fz)))
  or : ∀ {c : Ct} {X : Cx} {k : SC} {xs : List Expr} {p : Pos}, XOk c Φ g X k → chkBs g es k xs = true → (∀ bo fz, PE X (.BoolOp .Or xs p) (tE c fz bo (evOr Φ es bo fz))) ∧ (∀ fz, PW X (.BoolOp .Or xs p) (tT c fz (evOr Φ es true fz)))
structure EoOk (Φ : Str → Option Fn) (g : GC) (eo : Eo) : Prop where
  part : ∀ {c : Ct} {X : Cx} {k : SC} {x : Option Expr}, XOk c Φ g X k → chkO g eo k x = true → ∀ fz, PO X x (tO c fz (evo Φ eo fz))
  cond : ∀ {c : Ct} {X : Cx} {k : SC} {xs : List Expr}, XOk c Φ g X k → chkC g eo k xs = true → PTs X xs (tCn c (evc Φ eo))
def ItrOk (Φ : Str → Option Fn) (g : GC) (it : Itr) : Prop := ∀ (c : Ct) (X : Cx) (k : SC) (x tg : Expr), XOk c Φ g X k → chkI g it k x tg = true → ∀ bo fz, PI X tg x (tI c fz bo (evi Φ it bo fz))
theorem list_map_id {own : List Nat} {k : SC} : (k.own own).map (·.2) = own := own_map k own
mutual
theorem E.ok : ∀ (e : E), EOk Φ g e
  | .slot i => fun c X k x ok h => match x, h with
    | .Name x p, h => by
      simp only [chkE, Bool.and_eq_true] at h
      obtain ⟨q1, q2, q3⟩ := ok.vs h.2
      exact pt_of (fun bo fz => slot_ok (by rw [ok.N]; exact of_decide_eq_true h.1) q1 q2 q3) rfl
  | .con d => fun c X k x ok h => match x, h with
    | .Constant kc n p, h => by
      simp only [chkE] at h
      obtain ⟨v, q1, q2⟩ := con_inv (X := X) (n := n) (p := p) h
      exact pt_of (fun bo fz => con_ok q1 (q2 _)) rfl
  | .glo x d => fun c X k x ok h => match x, h with
    | .Name y p, h => by
      simp only [chkE, Bool.and_eq_true] at h
      obtain ⟨q1, q2⟩ := ok.gl h.1.2
      obtain ⟨v, u, e1, e2, e3⟩ := ok.glo y d h.2
      exact pt_of (fun bo fz => con_ok (pe_glob q1 e1 e2 q2) e3) rfl
  | .tup es => fun c X k x ok h => match x, h with
    | .Tuple xs n p, h => by
      simp only [chkE] at h
      exact pt_of (fun bo fz => tup_ok ((Es.ok es).arg ok h false fz)) rfl
  | .lst es => fun c X k x ok h => match x, h with
    | .List xs p, h => by
      simp only [chkE] at h
      exact pt_of (fun bo fz => lst_ok ((Es.ok es).arg ok h false fz)) rfl
  | .bin o a b => fun c X k x ok h => match x, h with
    | .BinOp x op y p, h => by
      simp only [chkE, Bool.and_eq_true] at h
      have e := of_decide_eq_true h.1.1
      subst e
      exact pt_of (fun bo fz => PE.of (pe_op (opD_bin o) ((E.ok a _ _ _ _ ok h.1.2).1 true fz) ((E.ok b _ _ _ _ ok h.2).1 true fz)) fun σ H Q q => op_read q) rfl
  | .cmp o a b => fun c X k x ok h => match x, h with
    | .Compare x [op] [y] p, h => by
      simp only [chkE, Bool.and_eq_true] at h
      have e := of_decide_eq_true h.1.1.1
      subst e
      have hm : behindInMarks o.op y = false := by simpa using h.1.1.2
      exact ⟨fun bo fz => PE.of (pe_cmpR (opD_cmp ok.hu o) ((E.ok a _ _ _ _ ok h.1.2).1 true fz) ((E.ok b _ _ _ _ ok h.2).1 true fz) hm) fun σ H Q q => op_read q,
        fun fz => cmpT_ok (g := cmpB o) (pt_cmpR (opD_cmp ok.hu o) ((E.ok a _ _ _ _ ok h.1.2).1 true fz) ((E.ok b _ _ _ _ ok h.2).1 true fz) hm)⟩
  | .chn o p a b cc => fun c X k x ok h => match x, h with
    | .Compare x [op, op'] [y, z] pos, h => by
      simp only [chkE, Bool.and_eq_true] at h
      have e := of_decide_eq_true h.1.1.1.1.1
      have e' := of_decide_eq_true h.1.1.1.1.2
      subst e e'
      have hm : lastMarks [o.op, p.op] [y, z] = false := by simpa using h.1.1.1.2
      have ha := (E.ok a _ _ _ _ ok h.1.1.2).1 true
      have hb := (E.ok b _ _ _ _ ok h.1.2).1 true
      have hc := (E.ok cc _ _ _ _ ok h.2).1 true
      refine ⟨fun bo fz => PE.of (pe_chain (opD_cmp ok.hu o) (opD_cmp ok.hu p) (ha fz) (hb fz) (hc fz) hm) fun σ H Q q => chn_read (g := cmpB o) (g' := cmpB p) q, fun fz => ?_⟩
      exact chnT_ok (g := cmpB o) (g' := cmpB p) (pt_chain (opD_cmp ok.hu o) (opD_cmp ok.hu p) (ha fz) (hb fz) (hc fz) hm)
  | .and es => fun c X k x ok h => match x, h with
    | .BoolOp .And xs p, h => by
      simp only [chkE] at h
      exact ⟨fun bo fz => ((Es.ok es).and ok h).1 bo fz, fun fz => (((Es.ok es).and ok h).2 fz).pt⟩
  | .or es => fun c X k x ok h => match x, h with
    | .BoolOp .Or xs p, h => by
      simp only [chkE] at h
      exact ⟨fun bo fz => ((Es.ok es).or ok h).1 bo fz, fun fz => (((Es.ok es).or ok h).2 fz).pt⟩
  | .not a => fun c X k x ok h => match x, h with
    | .UnaryOp .Not x p, h => by
      simp only [chkE] at h
      exact ⟨fun bo fz => not_ok ((E.ok a _ _ _ _ ok h).1 true fz), fun fz => notT_ok ((E.ok a _ _ _ _ ok h).2 fz)⟩
  | .neg a => fun c X k x ok h => match x, h with
    | .UnaryOp .USub x p, h => by
      simp only [chkE] at h
      exact pt_of (fun bo fz => neg_ok ((E.ok a _ _ _ _ ok h).1 true fz)) rfl
  | .ife cd a b => fun c X k x ok h => match x, h with
    | .IfExp x y z p, h => by
      simp only [chkE, Bool.and_eq_true] at h
      exact ⟨fun bo fz => ife_ok ((E.ok cd _ _ _ _ ok h.1.1).2 fz) ((E.ok a _ _ _ _ ok h.1.2).1 bo fz) ((E.ok b _ _ _ _ ok h.2).1 bo fz), fun fz => ifeT_ok ((E.ok cd _ _ _ _ ok h.1.1).2 fz) ((E.ok a _ _ _ _ ok h.1.2).2 fz) ((E.ok b _ _ _ _ ok h.2).2 fz)⟩
  | .idx a i => fun c X k x ok h => match x, h with
    | .Subscript x y p, h => by
      simp only [chkE, Bool.and_eq_true] at h
      exact pt_of (fun bo fz => PE.of (pe_ix (ixD ok.hu) ((E.ok a _ _ _ _ ok h.1.2).1 true fz) ((E.ok i _ _ _ _ ok h.2).1 true fz) (notSlice_ok h.1.1)) fun σ H Q q => op_read q) rfl
  | .slc a lo hi => fun c X k x ok h => match x, h with
    | .Subscript x (.Slice l u none p2) p, h => by
      simp only [chkE, Bool.and_eq_true] at h
      exact pt_of (fun bo fz => slc_ok ((E.ok a _ _ _ _ ok h.1.1).1 true fz) ((Eo.ok lo).part ok h.1.2 fz) ((Eo.ok hi).part ok h.2 fz)) rfl
  | .bi b es => fun c X k x ok h => match x, h with
    | .Call (.Name f p) (y :: ys) [] pos, h => by
      simp only [chkE, Bool.and_eq_true] at h
      have e := of_decide_eq_true h.1.1.1.1
      subst e
      exact pt_of (fun bo fz => bi_ok ok.calm ok.hu ok.gd b (ok.gl h.1.1.1.2).1 (blt_of ok b) ((Es.ok es).arg ok h.2 true fz) (starEach_cons h.1.1.2) (noStar_any h.1.2)) rfl
  | .sset a => fun c X k x ok h => match x, h with
    | .Call (.Name f p) [.Call (.Name f2 p2) [y] [] p3] [] pos, h => by
      simp only [chkE, Bool.and_eq_true] at h
      have e := of_decide_eq_true h.1.1.1.1.1
      have e2 := of_decide_eq_true h.1.1.1.1.2
      subst e e2
      exact pt_of (fun bo fz => sset_ok ok.calm (ok.gl h.1.1.1.2).1 (ok.blt _ (by decide)) (ok.gl h.1.1.2).1 (ok.blt _ (by decide)) ((E.ok a _ _ _ _ ok h.2).1 true fz) (starEach_cons h.1.2)) rfl
  | .isi t a => fun c X k x ok h => match x, h with
    | .Call (.Name f p) [y, .Name f2 p2] [] pos, h => by
      simp only [chkE, Bool.and_eq_true] at h
      have e := of_decide_eq_true h.1.1.1.1.1
      have e2 := of_decide_eq_true h.1.1.1.1.2
      subst e e2
      exact pt_of (fun bo fz => isi_ok t (ok.gl h.1.1.1.2).1 (ok.blt _ (by decide)) (ok.gl h.1.1.2).1 (ty_of ok t) ((E.ok a _ _ _ _ ok h.2).1 true fz) (starEach_cons h.1.2)) rfl
  | .cal f es => fun c X k x ok h => match x, h with
    | .Call (.Name f2 p) ys [] pos, h => by
      simp only [chkE, Bool.and_eq_true] at h
      have e := of_decide_eq_true h.1.1.1.1
      subst e
      obtain ⟨G, hG, hc⟩ := ok.cal f h.1.1.2
      obtain ⟨q1, q2⟩ := ok.gl h.1.1.1.2
      refine pt_of (fun bo fz => ?_) rfl
      have ev_eq : ev Φ (.cal f es) bo fz = fun S => bindL (evs Φ es false fz S) fun ds S => (some G).bind fun g => (g ds S.pot).map fun (r, P) => (r, ⟨S.env, P⟩) := by
        rw [← hG]
        rfl
      rw [ev_eq]
      cases ys with
      | nil =>
        cases es with
        | nil => exact cal0_ok hc q1 q2 (fun S => rfl)
        | cons s e r => cases s <;> simp [chkEs] at h
      | cons y ys =>
        have hn := h.1.2
        rw [List.all_cons, Bool.and_eq_true] at hn
        exact cal_ok hc q1 q2 ((Es.ok es).arg ok h.2 false fz) (starEach_cons hn.1) (noStar_any hn.2)
  | .mix r a => fun c X k x ok h => match x, h with
    | .Call (.Attribute x m apos) [y] [] cpos, h => by
      simp only [chkE, Bool.and_eq_true] at h
      have e := of_decide_eq_true h.1.1.1.1.1
      subst e
      exact pt_of (fun bo fz => mix_ok ((E.ok r _ _ _ _ ok h.1.2).1 true fz) ((E.ok a _ _ _ _ ok h.2).1 true fz) (notBare_ok h.1.1.1.1.2) (of_decide_eq_true h.1.1.1.2) (starEach_cons h.1.1.2)) rfl
  | .pget i j => fun c X k x ok h => match x, h with
    | .Subscript (.Name x p) (.Constant (.int m) p2 p3) pos, h => by
      simp only [chkE, Bool.and_eq_true] at h
      obtain ⟨q1, q2, q3⟩ := ok.vs h.1.2
      have e := of_decide_eq_true h.2
      subst e
      exact pt_of (fun bo fz => pget_ok (by rw [ok.N]; exact of_decide_eq_true h.1.1) q1 q2 q3) rfl
  | .lc elt t it cnd own => fun c X k x ok h => match x, h with
    | .ListComp x [⟨tg, iter, ifs, 0⟩] scope p, h => by
      simp only [chkE, Bool.and_eq_true] at h
      obtain ⟨⟨⟨⟨⟨⟨h1, h2⟩, h3⟩, h4⟩, h5⟩, h6⟩, h7⟩ := h
      have hb : BlkOk X.N X.env.scope scope (k.own own) := blkOk_by (by rw [ok.N, ok.sc]; exact h1)
      refine pt_of (fun bo fz => ?_) rfl
      have q := lc_ok (c := c) (fz := fz) (bo := bo) (pos := p) ok.calm ok.nd (Itr.ok it _ _ _ _ _ ok h5 true fz) hb (fun s H C cl fp => T.ok (ok.blk s H scope C cl fp) t h4) (fun s H C cl fp => (Eo.ok cnd).cond (ok.blk s H scope C cl fp) h6)
        (fun s H C cl fp => (E.ok elt _ _ _ _ (ok.blk s H scope C cl fp) h7).1 false false) (notSet_ok h3) (fun i hi => by
          rw [own_map]
          exact of_decide_eq_true (List.all_eq_true.mp h2 i hi))
      rw [own_map] at q
      exact q
  | .dnw t => fun c X k x ok h => by simp [chkE] at h
  | .dn1 t a b => fun c X k x ok h => by simp [chkE] at h
  | .lr1 a => fun c X k x ok h => match x, h with
    | .Call (.Name f p) [.Call (.Name f2 p2) [y] [] p3] [] pos, h => by
      simp only [chkE, Bool.and_eq_true] at h
      have e := of_decide_eq_true h.1.1.1.1.1
      have e2 := of_decide_eq_true h.1.1.1.1.2
      subst e e2
      exact pt_of (fun bo fz => lr1_ok ok.calm (ok.gl h.1.1.1.2).1 (ok.blt _ (by decide)) (ok.gl h.1.1.2).1 (ok.blt _ (by decide)) ((E.ok a _ _ _ _ ok h.2).1 true fz) (starEach_cons h.1.2)) rfl
  | .rev a => fun c X k x ok h => match x, h with
    | .Subscript x (.Slice none none (some (.UnaryOp .USub (.Constant (.int m) q1 q2) q3)) p2) p, h => by
      simp only [chkE, Bool.and_eq_true] at h
      have e := of_decide_eq_true h.1
      subst e
      exact pt_of (fun bo fz => rev_ok ((E.ok a _ _ _ _ ok h.2).1 true fz)) rfl
  | .dc kx vx t it own => fun c X k x ok h => match x, h with
    | .DictComp x y [⟨tg, iter, [], 0⟩] scope p, h => by
      simp only [chkE, Bool.and_eq_true] at h
      obtain ⟨⟨⟨⟨⟨⟨h1, h2⟩, h3⟩, h4⟩, h5⟩, h6⟩, h7⟩ := h
      have hb : BlkOk X.N X.env.scope scope (k.own own) := blkOk_by (by rw [ok.N, ok.sc]; exact h1)
      refine pt_of (fun bo fz => ?_) rfl
      have q := dc_ok (c := c) (fz := fz) (bo := bo) (pos := p) ok.calm ok.nd (Itr.ok it _ _ _ _ _ ok h5 true fz) hb (fun s H C cl fp => T.ok (ok.blk s H scope C cl fp) t h4) (fun s H C cl fp => (E.ok kx _ _ _ _ (ok.blk s H scope C cl fp) h6).1 false false)
        (fun s H C cl fp => (E.ok vx _ _ _ _ (ok.blk s H scope C cl fp) h7).1 false false) (notSet_ok h3) (fun i hi => by
          rw [own_map]
          exact of_decide_eq_true (List.all_eq_true.mp h2 i hi))
      rw [own_map] at q
      exact q
theorem Es.ok : ∀ (es : Es), EsOk Φ g es
  | .nil => {
    arg := fun {c X k xs} ok h bo fz => by
      cases xs with
      | nil => exact nil_ok
      | cons x xs => simp [chkEs] at h
    and := fun {c X k xs p} ok h => by simp [chkBs] at h
    or := fun {c X k xs p} ok h => by simp [chkBs] at h }
  | .cons s e r => {
    arg := fun {c X k xs} ok h bo fz => by
      cases xs with
      | nil => cases s <;> simp [chkEs] at h
      | cons x xs =>
        cases s with
        | false =>
          simp only [chkEs, Bool.and_eq_true] at h
          have q := cons_ok ((E.ok e _ _ _ _ ok h.1.2).1 bo fz) ((Es.ok r).arg ok h.2 bo fz) (starEach_cons h.1.1)
          cases bo <;> exact q
        | true =>
          cases x with
          | Starred x p =>
            simp only [chkEs, Bool.and_eq_true] at h
            have q := star_ok (p := p) ((E.ok e _ _ _ _ ok h.1).1 true fz) ((Es.ok r).arg ok h.2 bo fz) starEach_star
            cases bo <;> exact q
          | _ => simp [chkEs] at h
    and := fun {c X k xs p} ok h => by
      cases r with
      | nil =>
        match xs, h with
        | [x], h =>
          simp only [chkBs] at h
          exact ⟨fun bo fz => pe_one ((E.ok e _ _ _ _ ok h).1 bo fz), fun fz => pw_and1 ((E.ok e _ _ _ _ ok h).2 fz)⟩
      | cons s2 e2 r2 =>
        match xs, h with
        | x :: y :: ys, h =>
          simp only [chkBs, Bool.and_eq_true] at h
          have hr := (Es.ok (.cons s2 e2 r2)).and (p := p) ok h.2
          exact ⟨fun bo fz => PE.of (pe_andT ((E.ok e _ _ _ _ ok h.1).1 bo fz) (hr.1 bo fz)) fun σ H Q q => and_read (fb := evAnd Φ (.cons s2 e2 r2) bo fz) (fun _ _ _ z => z) q,
            fun fz => PW.of (pw_and ((E.ok e _ _ _ _ ok h.1).2 fz) (hr.2 fz)) fun σ H Q q => andT_read (fb := evAnd Φ (.cons s2 e2 r2) true fz) (fun _ _ _ z => z) q⟩
    or := fun {c X k xs p} ok h => by
      cases r with
      | nil =>
        match xs, h with
        | [x], h =>
          simp only [chkBs] at h
          exact ⟨fun bo fz => pe_one ((E.ok e _ _ _ _ ok h).1 bo fz), fun fz => pw_or1 ((E.ok e _ _ _ _ ok h).2 fz)⟩
      | cons s2 e2 r2 =>
        match xs, h with
        | x :: y :: ys, h =>
          simp only [chkBs, Bool.and_eq_true] at h
          have hr := (Es.ok (.cons s2 e2 r2)).or (p := p) ok h.2
          exact ⟨fun bo fz => PE.of (pe_orT ((E.ok e _ _ _ _ ok h.1).1 bo fz) (hr.1 bo fz)) fun σ H Q q => or_read (fb := evOr Φ (.cons s2 e2 r2) bo fz) (fun _ _ _ z => z) q,
            fun fz => PW.of (pw_or ((E.ok e _ _ _ _ ok h.1).2 fz) (hr.2 fz)) fun σ H Q q => orT_read (fb := evOr Φ (.cons s2 e2 r2) true fz) (fun _ _ _ z => z) q⟩ }
theorem Eo.ok : ∀ (eo : Eo), EoOk Φ g eo
  | .no => {
    part := fun {c X k x} ok h fz => match x, h with
      | none, h => partNo_ok
    cond := fun {c X k xs} ok h => match xs, h with
      | [], h => cnNo_ok }
  | .so e => {
    part := fun {c X k x} ok h fz => match x, h with
      | some x, h => partSo_ok ((E.ok e _ _ _ _ ok (by simpa only [chkO] using h)).1 true fz)
    cond := fun {c X k xs} ok h => match xs, h with
      | [x], h => cnSo_ok ((E.ok e _ _ _ _ ok (by simpa only [chkC] using h)).2 false) }
theorem Itr.ok : ∀ (it : Itr), ItrOk Φ g it
  | .seq e => fun c X k x tg ok h bo fz => seqI_ok ((E.ok e _ _ _ _ ok (by simpa only [chkI] using h)).1 bo fz)
  | .rng1 e => fun c X k x tg ok h bo fz => match x, h with
    | .Call (.Name f p) [x] [] pos, h => by
      simp only [chkI, Bool.and_eq_true] at h
      have e1 := of_decide_eq_true h.1.1.1
      subst e1
      exact rng1_ok (ok.gl h.1.1.2).1 (ok.blt _ (by decide)) ((E.ok e _ _ _ _ ok h.2).1 true fz) (starEach_cons h.1.2)
  | .rng2 a b => fun c X k x tg ok h bo fz => match x, h with
    | .Call (.Name f p) [x, y] [] pos, h => by
      simp only [chkI, Bool.and_eq_true] at h
      have e1 := of_decide_eq_true h.1.1.1.1.1
      subst e1
      exact rng2_ok (ok.gl h.1.1.1.1.2).1 (ok.blt _ (by decide)) ((E.ok a _ _ _ _ ok h.1.2).1 true fz) ((E.ok b _ _ _ _ ok h.2).1 true fz) (by rw [starEach_cons h.1.1.1.2, starEach_cons h.1.1.2]; rfl) (by rw [starEach_cons h.1.1.2]; rfl)
  | .enum e => fun c X k x tg ok h bo fz => match x, tg, h with
    | .Call (.Name f p) [x] [] pos, .Tuple _ _ _, h => by
      simp only [chkI, Bool.and_eq_true] at h
      have e1 := of_decide_eq_true h.1.1.1
      subst e1
      exact enum_ok (ok.gl h.1.1.2).1 (ok.blt _ (by decide)) ((E.ok e _ _ _ _ ok h.2).1 bo fz) (starEach_cons h.1.2)
  | .zip a b => fun c X k x tg ok h bo fz => match x, tg, h with
    | .Call (.Name f p) [x, y] [] pos, .Tuple _ _ _, h => by
      simp only [chkI, Bool.and_eq_true] at h
      have e1 := of_decide_eq_true h.1.1.1.1.1
      subst e1
      exact zip_ok (ok.gl h.1.1.1.1.2).1 (ok.blt _ (by decide)) ((E.ok a _ _ _ _ ok h.1.2).1 bo fz) ((E.ok b _ _ _ _ ok h.2).1 bo fz) (starEach_cons h.1.1.1.2) (by rw [starEach_cons h.1.1.2]; rfl)
  | .keys e => fun c X k x tg ok h bo fz => keysI_ok ((E.ok e _ _ _ _ ok (by simpa only [chkI] using h)).1 bo fz)
end
end
end Ev

set_option Elab.async false
set_option linter.all false
set_option maxRecDepth 100000
set_option maxHeartbeats 4000000
/-! Ev15: statements: the syntax, the evaluator, the readings. -/
namespace Ev
open PySem PySem.Spec PyProof.Rows L2

mutual
inductive S where
  | set (fr : Bool) (i : Nat) (e : E)
  | asg (t : T) (e : E)
  | par2 (f1 f2 : Bool) (i j : Nat) (a b : E)
  | par3 (f1 f2 f3 : Bool) (i j l : Nat) (a b c : E)
  | put (i : Nat) (ix e : E)
  | pput (i : Nat) (k : Int) (e : E)
  | app (i : Nat) (e : E)
  | ext (i : Nat) (e : E)
  | ife (c : E) (a b : Ss)
  | forr (t : T) (it : Itr) (b : Ss)
  | whil (c : E) (b : Ss)
  | ret (e : E)
  | retN
  | exp (e : E)
  | pass
  | brk
  | cont
  | dput (i : Nat) (ix e : E)
  | dupd (i : Nat) (e : E)
  | setPop (i r : Nat) (e : E)
  | appPop (i r : Nat) (e : E)
  | bad
inductive Ss where
  | nil
  | cons (s : S) (r : Ss)
end
inductive Fl where
  | nx (S : St') | brk (S : St') | ct (S : St') | ret (d : D) (P : Pt) | exc (x : Str) (d : D) (S : St')
def bindF (x : Option (Res × St')) (f : D → St' → Option Fl) : Option Fl := match x with
  | some (.val d, S) => f d S
  | some (.exc c d, S) => some (.exc c d S)
  | none => none
/-- what a slot holds of a value; of a new list -/
def svOf (fr : Bool) (d : D) : Option SV := if fr then (match d with
  | .lst ds => some (.own ds)
  | .dct t ks vs => some (.od t ks vs)
  | _ => none) else some (.val d)
theorem svOf_ow {d : D} {sv : SV} (h : svOf true d = some sv) : sv.ow = true := by
  unfold svOf at h
  rw [if_pos rfl] at h
  split at h <;> first | (cases h; rfl) | cases h
def odAt (S : St') (i : Nat) : Option (Bool × List D × List D) := match S.env[i]? with
  | some (.od t ks vs) => some (t, ks, vs)
  | _ => none
def setS (i : Nat) (v : SV) (S : St') : Option St' := if i < S.env.length then some ⟨S.env.set i v, S.pot⟩ else none
def seqF (f g : St' → Option Fl) (S : St') : Option Fl := (f S).bind fun fl => match fl with
  | .nx S => g S
  | fl => some fl
def forRun (t : T) (f : St' → Option Fl) : List D → St' → Option Fl
  | [], S => some (.nx S)
  | x :: xs, S => (bindT t x S.env).bind fun env => (f ⟨env, S.pot⟩).bind fun fl => match fl with
    | .nx S => forRun t f xs S
    | .ct S => forRun t f xs S
    | .brk S => some (.nx S)
    | fl => some fl
def whileRun (fc : St' → Option (Res × St')) (f : St' → Option Fl) : Nat → St' → Option Fl
  | 0, _ => none
  | n + 1, S => bindF (fc S) fun d S => (truD d).bind fun k => if k then (f S).bind fun fl => match fl with
    | .nx S => whileRun fc f n S
    | .ct S => whileRun fc f n S
    | .brk S => some (.nx S)
    | fl => some fl else some (.nx S)
def ownAt (S : St') (i : Nat) : Option (List D) := match S.env[i]? with
  | some (.own ds) => some ds
  | _ => none
def popD (ds : List D) (k : Int) : Option (D × List D) := if ds.length ≤ LIM then (ixN ds.length k).bind fun j => (ds[j]?).map fun d => (d, ds.eraseIdx j) else none
def mergeD (ks vs : List D) : List D → List D → List D × List D
  | k :: kr, v :: vr => mergeD (putD ks vs k v).1 (putD ks vs k v).2 kr vr
  | _, _ => (ks, vs)
def updD (x : Bool × List D × List D) : D → Option (List D × List D)
  | .dct false ks vs => if x.1 = false ∧ x.2.1.length + ks.length ≤ LIM then some (mergeD x.2.1 x.2.2 ks vs) else none
  | _ => none
noncomputable section
variable (Φ : Str → Option Fn) (n : Nat)
mutual
def exS : S → St' → Option Fl
  | .set fr i e, S => bindF (ev Φ e false true S) fun d S => (svOf fr d).bind fun v => (setS i v S).map .nx
  | .asg t e, S => bindF (ev Φ e false true S) fun d S => (bindT t d S.env).map fun env => .nx ⟨env, S.pot⟩
  | .par2 f1 f2 i j a b, S => bindF (ev Φ a false true S) fun x S => (svOf f1 x).bind fun v => bindF (ev Φ b false true S) fun y S => (svOf f2 y).bind fun w =>
      (setS i v S).bind fun S => (setS j w S).map .nx
  | .par3 f1 f2 f3 i j l a b c, S => bindF (ev Φ a false true S) fun x S => (svOf f1 x).bind fun u => bindF (ev Φ b false true S) fun y S => (svOf f2 y).bind fun v => bindF (ev Φ c false true S) fun z S => (svOf f3 z).bind fun w =>
      (setS i u S).bind fun S => (setS j v S).bind fun S => (setS l w S).map .nx
  | .put i ix e, S => bindF (ev Φ e false true S) fun d S => (ownAt S i).bind fun _ => bindF (ev Φ ix true true S) fun k S => (intOf k).bind fun k => (ownAt S i).bind fun ds =>
      (ixN ds.length k).bind fun j => (setS i (.own (ds.set j d)) S).map .nx
  | .pput i k e, S => bindF (ev Φ e false true S) fun d S => if isPot (S.env[i]?) then (intOf d).bind fun n => (S.pot.put k n).map fun P => .nx ⟨S.env, P⟩ else none
  | .app i e, S => (ownAt S i).bind fun _ => bindF (ev Φ e false true S) fun d S => (ownAt S i).bind fun ds => if ds.length < LIM then (setS i (.own (ds ++ [d])) S).map .nx else none
  | .ext i e, S => (ownAt S i).bind fun _ => bindF (ev Φ e false true S) fun d S => match d with
    | .lst es => (ownAt S i).bind fun ds => if ds.length + es.length ≤ LIM then (setS i (.own (ds ++ es)) S).map .nx else none
    | _ => none
  | .ife c a b, S => bindF (ev Φ c true true S) fun d S => (truD d).bind fun k => if k then exSs a S else exSs b S
  | .forr t it b, S => (evi Φ it false true S).bind fun (items, S) => forRun t (exSs b) items S
  | .whil c b, S => whileRun (ev Φ c true true) (exSs b) n S
  | .ret e, S => bindF (ev Φ e false true S) fun d S => some (.ret d S.pot)
  | .retN, S => some (.ret .non S.pot)
  | .exp e, S => bindF (ev Φ e false true S) fun _ S => some (.nx S)
  | .pass, S => some (.nx S)
  | .brk, S => some (.brk S)
  | .cont, S => some (.ct S)
  | .dput i ix e, S => bindF (ev Φ e false true S) fun d S => (odAt S i).bind fun _ => bindF (ev Φ ix false true S) fun k S => (odAt S i).bind fun x =>
      if keyOk x.1 k = true ∧ x.2.1.length < LIM then (setS i (.od x.1 (putD x.2.1 x.2.2 k d).1 (putD x.2.1 x.2.2 k d).2) S).map .nx else none
  | .dupd i e, S => (odAt S i).bind fun _ => bindF (ev Φ e false true S) fun d S => (odAt S i).bind fun x => (updD x d).bind fun y => (setS i (.od false y.1 y.2) S).map .nx
  | .setPop i r e, S => (ownAt S r).bind fun _ => bindF (ev Φ e true true S) fun y S => (intOf y).bind fun n => (ownAt S r).bind fun ds => (popD ds n).bind fun p => (setS r (.own p.2) S).bind fun S => (setS i (.val p.1) S).map .nx
  | .appPop i r e, S => (ownAt S i).bind fun _ => (ownAt S r).bind fun _ => bindF (ev Φ e true true S) fun y S => (intOf y).bind fun n => (ownAt S r).bind fun ds => (popD ds n).bind fun p => (setS r (.own p.2) S).bind fun S => (ownAt S i).bind fun es => if es.length < LIM ∧ i ≠ r then (setS i (.own (es ++ [p.1])) S).map .nx else none
  | .bad, _ => none
def exSs : Ss → St' → Option Fl
  | .nil, S => some (.nx S)
  | .cons s r, S => seqF (exS s) (exSs r) S
end
end

section
variable {c : Ct} {F : AP} {σ σ' σ'' : L2.St} {H H' H'' : Hp} {S S' S'' : St'} {fz bo : Bool}
variable {X : Cx} {a b e : Expr} {pos p : Pos} {fa fb fc : St' → Option (Res × St')} {Q : VK} {Z : Ends}
/-- what is to hold behind a statement -/
def EndS (c : Ct) (F : AP) (σ : L2.St) (S : St') (H : Hp) (Z : Ends) (fl : Fl) : Prop := match fl with
  | .nx S' => ∀ σ' H', EnvR c F σ' H' S' → Keep (Bad F σ S.env) (Bad F σ' S'.env) H H' → Z.nx σ' H'
  | .brk S' => ∀ σ' H', EnvR c F σ' H' S' → Keep (Bad F σ S.env) (Bad F σ' S'.env) H H' → Z.bk σ' H'
  | .ct S' => ∀ σ' H', EnvR c F σ' H' S' → Keep (Bad F σ S.env) (Bad F σ' S'.env) H H' → Z.ct σ' H'
  | .ret d P => ∀ v σ' H' env', EnvR c F σ' H' ⟨env', P⟩ → Rep c.pa (Bad F σ' env') H' v d → Z.rt v H'
  | .exc x d S' => ∀ σ' H' cls dx, EnvR c F σ' H' S' → XRep c.pa (Bad F σ' S'.env) H' cls dx x d → c.xe cls dx H'
def FolS (c : Ct) (F : AP) (σ : L2.St) (H : Hp) (S : St') (o : Option Fl) (Z : Ends) : Prop := ∃ fl, o = some fl ∧ EndS c F σ S H Z fl
def tS (c : Ct) (f : St' → Option Fl) : TS := fun Z σ H => ∃ F S, EnvR c F σ H S ∧ FolS c F σ H S (f S) Z
theorem EndS.from {fl : Fl} (h : EndS c F σ S H Z fl) (k : Keep (Bad F σ S.env) (Bad F σ' S'.env) H H') : EndS c F σ' S' H' Z fl := by
  cases fl with
  | nx S1 => exact fun σ1 H1 I k1 => h σ1 H1 I (k.trans k1)
  | brk S1 => exact fun σ1 H1 I k1 => h σ1 H1 I (k.trans k1)
  | ct S1 => exact fun σ1 H1 I k1 => h σ1 H1 I (k.trans k1)
  | ret d P => exact h
  | exc x d S1 => exact h
theorem FolS.from {o : Option Fl} (h : FolS c F σ H S o Z) (k : Keep (Bad F σ S.env) (Bad F σ' S'.env) H H') : FolS c F σ' H' S' o Z := let ⟨fl, e, q⟩ := h; ⟨fl, e, q.from k⟩
theorem PS.of {st : Stmt} {t t' : TS} (h : PS X st t) (w : ∀ Z σ H, t' Z σ H → t Z σ H) : PS X st t' := ⟨fun pins s σ H Z I q => h.run pins s σ H Z I (w Z σ H q)⟩
theorem PSs.of {st : List Stmt} {t t' : TS} (h : PSs X st t) (w : ∀ Z σ H, t' Z σ H → t Z σ H) : PSs X st t' := ⟨fun pins s σ H Z I q => h.run pins s σ H Z I (w Z σ H q)⟩
theorem seq_read {f g : St' → Option Fl} (h : tS c (seqF f g) Z σ H) : tSeq (tS c f) (tS c g) Z σ H := by
  obtain ⟨F, S, I, fl, e, q⟩ := h
  unfold seqF at e
  obtain ⟨fl1, e1, e2⟩ := Option.bind_eq_some_iff.mp e
  refine ⟨F, S, I, fl1, e1, ?_⟩
  cases fl1 with
  | nx S1 => exact fun σ1 H1 I1 k1 => ⟨F, S1, I1, fl, e2, q.from k1⟩
  | brk S1 => cases e2; exact q
  | ct S1 => cases e2; exact q
  | ret d P => cases e2; exact q
  | exc x d S1 => cases e2; exact q
/-- an expression, then the statement's own step -/
theorem FolS.bind {b : Bool} {x : Option (Res × St')} {k : D → St' → Option Fl} (h : FolS c F σ H S (bindF x k) Z) :
    Fol c F σ true b H S x fun v H1 => ∃ d S1, Stp c F σ true H S H1 S1 ∧ RR b c.pa F (Bad F σ S1.env) H1 v d ∧ FolS c F σ H1 S1 (k d S1) Z := by
  obtain ⟨fl, e, q⟩ := h
  cases x with
  | none => cases e
  | some y =>
    obtain ⟨r, S1⟩ := y
    cases r with
    | val d => exact ⟨.val d, S1, rfl, fun H1 s v hv => ⟨d, S1, s, hv, fl, e, q.from s.kp⟩⟩
    | exc y d =>
      cases e
      exact ⟨.exc y d, S1, rfl, fun H1 s cls dx z => q σ H1 cls dx s.env z⟩
theorem FolS.bindT {x : Option (Res × St')} {k : D → Bool → St' → Option Fl} (h : FolS c F σ H S (bindF x fun d S => (truD d).bind fun b => k d b S) Z) :
    FolT c F σ true H S x fun b H1 => ∃ d S1, truD d = some b ∧ Stp c F σ true H S H1 S1 ∧ FolS c F σ H1 S1 (k d b S1) Z := by
  obtain ⟨fl, e, q⟩ := h
  cases x with
  | none => cases e
  | some y =>
    obtain ⟨r, S1⟩ := y
    cases r with
    | val d =>
      obtain ⟨b, e1, e2⟩ := Option.bind_eq_some_iff.mp (show (truD d).bind (fun b => k d b S1) = some fl from e)
      exact ⟨.val d, S1, rfl, fun d' z => (by cases z; rw [e1]; rfl), fun H1 s => ⟨b, e1, d, S1, e1, s, fl, e2, q.from s.kp⟩⟩
    | exc y d =>
      cases e
      exact ⟨.exc y d, S1, rfl, fun d' z => (nomatch z), fun H1 s cls dx z => q σ H1 cls dx s.env z⟩
theorem FolS.opt {α : Type} {o : Option α} {k : α → Option Fl} (h : FolS c F σ H S (o.bind k) Z) : ∃ a, o = some a ∧ FolS c F σ H S (k a) Z := by
  obtain ⟨fl, e, q⟩ := h
  obtain ⟨a, e1, e2⟩ := Option.bind_eq_some_iff.mp e
  exact ⟨a, e1, fl, e2, q⟩

/-! ### the small statements -/
theorem ret_ok (ha : PE X a (tE c true false fa)) : PS X (.Return (some a) pos) (tS c fun S => bindF (fa S) fun d S => some (.ret d S.pot)) :=
  PS.of (ps_ret ha) fun Z σ H ⟨F, S, I, f⟩ => ⟨F, S, I, (FolS.bind (b := false) f).mono fun v H1 ⟨d, S1, s1, r1, fl, e, q⟩ => by
    cases e
    exact q v σ H1 S1.env s1.env r1.rep⟩
theorem retN_ok : PS X (.Return none pos) (tS c fun S => some (.ret .non S.pot)) :=
  PS.of ps_retN fun Z σ H ⟨F, S, I, fl, e, q⟩ => by
    cases e
    exact q .non σ H S.env I .non
theorem exp_ok (ha : PE X a (tE c true false fa)) (hs : swapsWith a none pos.line X.env = pure false) : PS X (.Expr a pos) (tS c fun S => bindF (fa S) fun _ S => some (.nx S)) :=
  PS.of (ps_expr ha hs) fun Z σ H ⟨F, S, I, f⟩ => ⟨F, S, I, (FolS.bind (b := false) f).mono fun v H1 ⟨d, S1, s1, r1, fl, e, q⟩ => by
    cases e
    exact q σ H1 s1.env (fun _ _ h n => ⟨h, n⟩)⟩
theorem pass_ok : PS X (.Pass pos) (tS c fun S => some (.nx S)) := PS.of ps_pass fun Z σ H ⟨F, S, I, fl, e, q⟩ => by
  cases e
  exact q σ H I (Keep.refl _ _)
theorem doc_ok {x j pos'} : PS X (.Expr (.Constant (.str x) j pos) pos') (tS c fun S => some (.nx S)) := PS.of ps_doc fun Z σ H ⟨F, S, I, fl, e, q⟩ => by
  cases e
  exact q σ H I (Keep.refl _ _)
theorem brk_ok : PS X (.Break pos) (tS c fun S => some (.brk S)) := PS.of ps_break fun Z σ H ⟨F, S, I, fl, e, q⟩ => by
  cases e
  exact q σ H I (Keep.refl _ _)
theorem cont_ok : PS X (.Continue pos) (tS c fun S => some (.ct S)) := PS.of ps_continue fun Z σ H ⟨F, S, I, fl, e, q⟩ => by
  cases e
  exact q σ H I (Keep.refl _ _)
theorem bad_ok {st : Stmt} : PS X st (tS c fun _ => none) := PS.of ps_never fun Z σ H ⟨F, S, I, fl, e, q⟩ => by cases e
theorem nilS_ok : PSs X [] (tS c fun S => some (.nx S)) := PSs.of pss_nil fun Z σ H ⟨F, S, I, fl, e, q⟩ => by
  cases e
  exact q σ H I (Keep.refl _ _)
theorem consS_ok {st : Stmt} {rest : List Stmt} {f g : St' → Option Fl} (h1 : PS X st (tS c f)) (h2 : PSs X rest (tS c g)) : PSs X (st :: rest) (tS c (seqF f g)) :=
  PSs.of (pss_cons h1 h2) fun Z σ H q => seq_read q
theorem ifS_ok {cd : Expr} {xs ys : List Stmt} {fa fb : St' → Option Fl} (hc : PT X cd (tT c true fc)) (ha : PSs X xs (tS c fa)) (hb : PSs X ys (tS c fb)) :
    PS X (.If cd xs ys pos) (tS c fun S => bindF (fc S) fun d S => (truD d).bind fun k => if k then fa S else fb S) :=
  PS.of (ps_if hc ha hb) fun Z σ H ⟨F, S, I, f⟩ => ⟨F, S, I, (FolS.bindT (k := fun d (k : Bool) S => if k then fa S else fb S) f).mono fun k H1 ⟨d, S1, e1, s1, f1⟩ => by
    cases k with
    | true => exact ⟨F, S1, s1.env, f1⟩
    | false => exact ⟨F, S1, s1.env, f1⟩⟩

/-! ### names -/
theorem asg_ok {tg : Expr} {t : T} (he : PE X a (tE c true false fa)) (hg : PG X tg (tG c t)) (hs : swapsWithSole [tg] a pos.line X.env = pure false) (hw : swappedStores [tg] a X.env = pure none) (h1 : (assignEach [tg] X.env).map (·.2) = [assign tg X.env]) :
    PS X (.Assign [tg] a pos) (tS c fun S => bindF (fa S) fun d S => (bindT t d S.env).map fun env => .nx ⟨env, S.pot⟩) :=
  PS.of (ps_asg he hg hs hw h1) fun Z σ H ⟨F, S, I, f⟩ => ⟨F, S, I, (FolS.bind (b := false) f).mono fun v H1 ⟨d, S1, s1, r1, fl, e, q⟩ => by
    obtain ⟨env', e1, e2⟩ := Option.map_eq_some_iff.mp e
    cases e2
    exact ⟨F, S1, d, env', s1.env, r1.rep, e1, fun σ' t' => q σ' H1 t'.env t'.kp⟩⟩
theorem setN_read {i : Nat} (h : tS c (fun S => bindF (fa S) fun d S => (svOf false d).bind fun v => (setS i v S).map .nx) Z σ H) : tAsg (tE c true false fa) (gName i) Z σ H := by
  obtain ⟨F, S, I, f⟩ := h
  refine ⟨F, S, I, (FolS.bind (b := false) f).mono fun v H1 ⟨d, S1, s1, r1, fl, e, q⟩ => ?_⟩
  obtain ⟨sv, e1, e⟩ := Option.bind_eq_some_iff.mp e
  cases e1
  obtain ⟨S2, e1, e2⟩ := Option.map_eq_some_iff.mp e
  cases e2
  unfold setS at e1
  split at e1
  · rename_i hi
    cases e1
    have t := setVal s1.env hi r1.rep
    exact q _ H1 t.env t.kp
  · cases e1
end
end Ev

set_option Elab.async false
set_option linter.all false
set_option maxRecDepth 100000
set_option maxHeartbeats 4000000
/-! Ev16: new lists that a slot owns; stores; loops. -/
namespace Ev
open PySem PySem.Spec PyProof.Rows L2
section
variable {c : Ct} {F : AP} {σ σ' σ'' : L2.St} {H H' H'' : Hp} {S S' S'' : St'} {fz bo : Bool}
variable {X : Cx} {a b e : Expr} {pos p : Pos} {fa fb fc : St' → Option (Res × St')} {Q : VK} {Z : Ends}

/-- F and one more -/
abbrev Plus (F : AP) (q : Addr) : AP := fun a => F a ∨ a = q
/-- a new object stands at q, and nothing that is told lies there -/
theorem grow (I : EnvR c F σ H S) {q : Addr} (hq : H q = none) (st : StepE c.pa H H') (hx : H' q ≠ none) {B : AP} {P : Pt} (hp : PotR c.pa B H' P) : EnvR c (Plus F q) σ H' ⟨S.env, P⟩ := by
  have kp : Keep (Bad F σ S.env) (Bad (Plus F q) σ S.env) H H' := fun a u h n => by
    refine ⟨st.keep a u h fun e => n (.inl (I.notpot e)), fun z => ?_⟩
    rcases z with (z | z) | z
    · exact n (.inl z)
    · rw [z, hq] at h
      cases h
    · exact n (.inr z)
  refine ⟨I.len, fun a h => ?_, fun r e => ⟨.inl (I.pot r e).1, (hp r e).2⟩, fun i d e => ?_, fun i ds e => ?_, I.inj, fun a u h n => st.keep a u (I.keep a u h n) n⟩
  · rcases h with h | h
    · exact st.dom a (I.dom a h)
    · rw [h]
      exact hx
  · obtain ⟨v, h1, h2⟩ := I.val i d e
    exact ⟨v, h1, h2.kp kp⟩
  · obtain ⟨r, h1, h2, h4, h5⟩ := I.ow i ds e
    refine ⟨r, h1, h2.mv kp fun o z => st.keep r _ z fun e => h4 (I.notpot e), fun z => z.elim h4 fun z => ?_, h5⟩
    obtain ⟨o, ho⟩ := h2.there
    rw [z, hq] at ho
    cases ho
/-- .. becomes a slot's own -/
theorem setOw {q : Addr} {x : SV} {i : Nat} (I : EnvR c (Plus F q) σ H S) (nF : ¬ F q) (np : c.pa ≠ some q) (h0 : c.H0 q = none) (hw : x.ow = true) (hr : x.rp c.pa (Bad (Plus F q) σ S.env) H q) (hi : i < S.env.length) :
    EnvR c F (σ.set i (some (.ref q))) H ⟨S.env.set i x, S.pot⟩ ∧ ∀ a, Own (σ.set i (some (.ref q))) (S.env.set i x) a → a = q ∨ Own σ S.env a := by
  have less : ∀ a, Own (σ.set i (some (.ref q))) (S.env.set i x) a → a = q ∨ Own σ S.env a := fun a ⟨j, es, ⟨e1, w⟩, e2⟩ => by
    rcases set_get e1 with ⟨z1, z⟩ | ⟨n, z⟩
    · subst z1
      rw [List.getElem?_set_self (by rw [I.len]; exact hi)] at e2
      cases e2
      exact .inl rfl
    · rw [List.getElem?_set_ne n] at e2
      exact .inr ⟨j, es, ⟨z, w⟩, e2⟩
  have kp : Keep (Bad (Plus F q) σ S.env) (Bad F (σ.set i (some (.ref q))) (S.env.set i x)) H H := Keep.less fun a z => z.elim (fun w => .inl (.inl w)) fun w => (less a w).elim (fun u => .inl (.inr u)) .inr
  refine ⟨⟨by simp [I.len], fun a h => I.dom a (.inl h), fun r e => ⟨((I.pot r e).1).elim id fun z => absurd (by rw [e, z]) np, (I.pot r e).2⟩, fun j d ej => ?_, fun j es ⟨ej, w⟩ => ?_, fun j k r es fs ⟨ej, w⟩ ⟨ek, w'⟩ e1 e2 => ?_, I.keep⟩, less⟩
  · rcases set_get ej with ⟨z1, z2⟩ | ⟨n, z⟩
    · rw [z2] at hw
      cases hw
    · obtain ⟨w, g1, g2⟩ := I.val j d z
      exact ⟨w, by rw [List.getElem?_set_ne n]; exact g1, g2.kp kp⟩
  · rcases set_get ej with ⟨z1, z2⟩ | ⟨n, z⟩
    · subst z2
      subst z1
      exact ⟨q, List.getElem?_set_self (by rw [I.len]; exact hi), hr.mv kp fun _ z => z, nF, h0⟩
    · obtain ⟨r, g1, g2, g4, g5⟩ := I.ow j es ⟨z, w⟩
      exact ⟨r, by rw [List.getElem?_set_ne n]; exact g1, g2.mv kp fun _ z => z, fun z => g4 (.inl z), g5⟩
  · have key : ∀ {j k : Nat} {fs : SV}, i = j → i ≠ k → ((S.env.set i x)[k]? = some fs ∧ fs.ow = true) → (σ.set i (some (.ref q)))[j]? = some (some (V.ref r)) → (σ.set i (some (.ref q)))[k]? = some (some (V.ref r)) → False := fun {j k fs} z1 n ⟨ek, w⟩ e1 e2 => by
      subst z1
      rw [List.getElem?_set_self (by rw [I.len]; exact hi)] at e1
      cases e1
      rw [List.getElem?_set_ne n] at ek e2
      obtain ⟨r', g1, _, g4, _⟩ := I.ow k fs ⟨ek, w⟩
      rw [e2] at g1
      cases g1
      exact g4 (.inr rfl)
    by_cases hj : i = j
    · by_cases hk : i = k
      · exact hj.symm.trans hk
      · exact (key hj hk ⟨ek, w'⟩ e1 e2).elim
    · by_cases hk : i = k
      · exact (key hk hj ⟨ej, w⟩ e2 e1).elim
      · rw [List.getElem?_set_ne hj] at ej e1
        rw [List.getElem?_set_ne hk] at ek e2
        exact I.inj j k r es fs ⟨ej, w⟩ ⟨ek, w'⟩ e1 e2
theorem setOwn {q : Addr} {xs : List V} {ds : List D} {i : Nat} (I : EnvR c (Plus F q) σ H S) (nF : ¬ F q) (np : c.pa ≠ some q) (h0 : c.H0 q = none) (hx : H q = some (.lst xs)) (hr : RepL c.pa (Bad (Plus F q) σ S.env) H xs ds) (hi : i < S.env.length) :
    EnvR c F (σ.set i (some (.ref q))) H ⟨S.env.set i (.own ds), S.pot⟩ ∧ ∀ a, Own (σ.set i (some (.ref q))) (S.env.set i (.own ds)) a → a = q ∨ Own σ S.env a := setOw (x := .own ds) I nF np h0 rfl ⟨xs, hx, hr⟩ hi
/-- what is evaluated is a new list, a new dict -/
def EndF (c : Ct) (F : AP) (σ : L2.St) (H : Hp) (S : St') (S' : St') (r : Res) (Q : VK) : Prop := match r with
  | .val d => ∃ sv, svOf true d = some sv ∧ ∀ H' q, ¬ F q → c.pa ≠ some q → c.H0 q = none → H q = none → StepE c.pa H H' → EnvR c (Plus F q) σ H' S' → (∀ a, Own σ S'.env a → Own σ S.env a) → sv.rp c.pa (Bad (Plus F q) σ S'.env) H' q → Q (.ref q) H'
  | .exc x d => ∀ H', Stp c F σ true H S H' S' → ∀ cls dx, XRep c.pa (Bad F σ S'.env) H' cls dx x d → c.xe cls dx H'
def tF (c : Ct) (f : St' → Option (Res × St')) : TE := fun σ H Q => ∃ F S, EnvR c F σ H S ∧ ∃ r S', f S = some (r, S') ∧ EndF c F σ H S S' r Q
/-- an expression of an assignment's right side: its value, or its new object -/
abbrev tX1 (c : Ct) (b : Bool) (f : St' → Option (Res × St')) : TE := if b then tF c f else tE c true false f
theorem XRep.less {pa : Option Addr} {B B' : AP} {H : Hp} {cls : Value} {dx : Option Addr} {x : Str} {d : D} (h : XRep pa B H cls dx x d) (l : ∀ a, B' a → B a) : XRep pa B' H cls dx x d := h
/-- one of an assignment's right side -/
theorem mix_step {F1 : AP} {S1 : St'} {H1 : Hp} {b : Bool} {f : St' → Option (Res × St')} {k : SV → St' → Option Fl} {fl : Fl} (I : EnvR c F1 σ H1 S1) (e : bindF (f S1) (fun d S => (svOf b d).bind fun sv => k sv S) = some fl)
    (hx : ∀ x d S', fl = .exc x d S' → ∀ H' cls dx, Stp c F1 σ true H1 S1 H' S' → XRep c.pa (Bad F1 σ S'.env) H' cls dx x d → c.xe cls dx H')
    (hv : ∀ v d S2 H2, k (.val d) S2 = some fl → Stp c F1 σ true H1 S1 H2 S2 → Rep c.pa (Bad F1 σ S2.env) H2 v d → Q v H2)
    (ho : ∀ q sv S2 H2, k sv S2 = some fl → sv.ow = true → ¬ F1 q → c.pa ≠ some q → c.H0 q = none → H1 q = none → StepE c.pa H1 H2 → EnvR c (Plus F1 q) σ H2 S2 → (∀ a, Own σ S2.env a → Own σ S1.env a) → sv.rp c.pa (Bad (Plus F1 q) σ S2.env) H2 q → Q (.ref q) H2) :
    tX1 c b f σ H1 Q := by
  generalize hf : f S1 = o at e
  cases o with
  | none => cases e
  | some y =>
    obtain ⟨r, S2⟩ := y
    cases r with
    | exc x d =>
      have e : some (Fl.exc x d S2) = some fl := e
      cases e
      cases b with
      | true => exact ⟨F1, S1, I, _, _, hf, fun H' s cls dx z => hx x d S2 rfl H' cls dx s z⟩
      | false => exact ⟨F1, S1, I, _, _, hf, fun H' s cls dx z => hx x d S2 rfl H' cls dx s z⟩
    | val d =>
      obtain ⟨sv, e1, e2⟩ := Option.bind_eq_some_iff.mp (show (svOf b d).bind (fun sv => k sv S2) = some fl from e)
      cases b with
      | true => exact ⟨F1, S1, I, _, _, hf, sv, e1, fun H' q n np h0 hH st I2 ow hr => ho q sv S2 H' e2 (svOf_ow e1) n np h0 hH st I2 ow hr⟩
      | false =>
        cases e1
        exact ⟨F1, S1, I, _, _, hf, fun H' s v w => hv v d S2 H' e2 s w.rep⟩
theorem Plus.swap {F : AP} {p q : Addr} : Plus (Plus F p) q = Plus (Plus F q) p := by
  funext a
  apply propext
  constructor
  · rintro ((h | h) | h)
    · exact .inl (.inl h)
    · exact .inr h
    · exact .inl (.inr h)
  · rintro ((h | h) | h)
    · exact .inl (.inl h)
    · exact .inr h
    · exact .inl (.inr h)
theorem EnvR.minus {q : Addr} (I : EnvR c (Plus F q) σ H S) (np : c.pa ≠ some q) : EnvR c F σ H S := by
  have kp : Keep (Bad (Plus F q) σ S.env) (Bad F σ S.env) H H := Keep.less fun a z => z.elim (fun w => .inl (.inl w)) .inr
  refine ⟨I.len, fun a h => I.dom a (.inl h), fun r e => ⟨((I.pot r e).1).elim id fun z => absurd (by rw [e, z]) np, (I.pot r e).2⟩, fun i d e => ?_, fun i ds e => ?_, I.inj, I.keep⟩
  · obtain ⟨v, h1, h2⟩ := I.val i d e
    exact ⟨v, h1, h2.kp kp⟩
  · obtain ⟨r, h1, h2, h4, h5⟩ := I.ow i ds e
    exact ⟨r, h1, h2.mv kp fun _ z => z, fun z => h4 (.inl z), h5⟩
theorem setF_read {i : Nat} {b : Bool} (h : tS c (fun S => bindF (fa S) fun d S => (svOf b d).bind fun v => (setS i v S).map .nx) Z σ H) : tAsg (tX1 c b fa) (gName i) Z σ H := by
  obtain ⟨F, S, I, fl, e, q⟩ := h
  refine mix_step I e (fun x d S' ef H' cls dx s z => ?_) (fun v d S2 H2 e2 s r => ?_) fun p sv S2 H2 e2 hw nF np h0 hH st I1 ow hr => ?_
  · subst ef
    exact q σ H' cls dx s.env z
  · obtain ⟨S3, e3, e4⟩ := Option.map_eq_some_iff.mp e2
    subst e4
    unfold setS at e3
    split at e3
    case isFalse => cases e3
    rename_i hi
    cases e3
    have t := setVal s.env hi r
    exact q _ H2 t.env (s.kp.trans t.kp)
  · obtain ⟨S3, e3, e4⟩ := Option.map_eq_some_iff.mp e2
    subst e4
    unfold setS at e3
    split at e3
    case isFalse => cases e3
    rename_i hi
    cases e3
    obtain ⟨I2, l2⟩ := setOw (i := i) I1 nF np h0 hw hr hi
    refine q _ H2 I2 fun a u ha na => ⟨st.keep a u ha fun e => na (.inl (I.notpot e)), fun z => ?_⟩
    rcases z with z | z
    · exact na (.inl z)
    · rcases l2 a z with z | z
      · rw [z, hH] at ha
        cases ha
      · exact na (.inr (ow a z))
theorem freshAt (I : EnvR c F σ H S) {q : Addr} (hq : H q = none) : ¬ F q ∧ c.pa ≠ some q ∧ c.H0 q = none := by
  have np : c.pa ≠ some q := fun e => I.dom q (I.notpot e) hq
  refine ⟨fun z => I.dom q z hq, np, ?_⟩
  cases h : c.H0 q with
  | none => rfl
  | some o =>
    have := I.keep q o h np
    rw [hq] at this
    cases this
theorem Stp.unfresh (s : Stp c F σ fz H S H' S') {q : Addr} (hq : H' q = none) : H q = none := by
  cases h : H q with
  | none => rfl
  | some o => exact absurd hq (s.st.dom q (by rw [h]; exact fun z => nomatch z))
theorem growK (I : EnvR c F σ H S) {q : Addr} (hq : H q = none) (st : StepE c.pa H H') : Keep (Bad F σ S.env) (Bad (Plus F q) σ S.env) H H' := fun a u h n => by
  refine ⟨st.keep a u h fun e => n (.inl (I.notpot e)), fun z => ?_⟩
  rcases z with (z | z) | z
  · exact n (.inl z)
  · rw [z, hq] at h
    cases h
  · exact n (.inr z)
theorem lstF_ok {es : List Expr} {f : St' → Option (RL × St')} (h : PA X es (tA c true false f)) : PE X (.List es pos) (tF c fun S => bindL (f S) fun ds S => if ds.length ≤ LIM then some (.val (.lst ds), S) else none) :=
  PE.of (pe_lst h) fun σ H Q ⟨F, S, I, r, S', e, g⟩ => by
    refine ⟨F, S, I, ?_⟩
    dsimp only at e
    generalize hx : f S = o at e
    cases o with
    | none => cases e
    | some y =>
      obtain ⟨r1, S1⟩ := y
      cases r1 with
      | exc y d =>
        cases e
        exact ⟨.exc y d, _, rfl, fun H1 s => g H1 s⟩
      | vals ds =>
        have e : (if ds.length ≤ LIM then some (Res.val (.lst ds), S1) else none) = some (r, S') := e
        split at e
        case isFalse => cases e
        rename_i hl
        cases e
        obtain ⟨sv, ed, g⟩ := g
        cases ed
        refine ⟨.vals ds, _, rfl, fun H1 s vs hv => ⟨by rw [hv.rep.length, lim_eq]; exact hl, fun p hp => ?_⟩⟩
        obtain ⟨q1, q2, q3⟩ := freshAt s.env hp
        have sx : StepE c.pa H1 (upd H1 p (.lst vs)) := StepE.new hp
        have pt : PotR c.pa F (upd H1 p (.lst vs)) S'.pot := fun r e => ⟨(s.env.pot r e).1, by rw [upd_ne (ne_of_none (s.env.pot r e).2 hp)]; exact (s.env.pot r e).2⟩
        exact g _ p q1 q2 q3 (s.unfresh hp) (s.st.trans sx) (grow s.env hp sx (by rw [upd_same]; exact fun z => nomatch z) pt) s.own ⟨vs, upd_same, hv.rep.kp (growK s.env hp sx)⟩
theorem lcF_read {vs : List Nat} {t : T} {fi : St' → Option (List D × St')} {fcn : St' → Option (Bool × Pt)} {fe : St' → Option (Res × St')} (hsl : ∀ i ∈ t.slots, i ∈ vs)
    (h : tF c (fun S => (fi S).bind fun (items, S) => if items.length ≤ LIM ∧ vs.all (fun i => notOwn S.env i) = true then (lcRun (lcBody t (wipeE S.env vs) fcn fe) items S.pot).map fun (ds, P) => (.val (.lst ds), ⟨S.env, P⟩) else none) σ H Q) :
    tLc (tI c true true fi) (tG c.nox t) (tCn c.nox fcn) (tE c.nox false false fe) vs σ H Q := by
  obtain ⟨F, S, I, r, S', e, g⟩ := h
  dsimp only at e
  obtain ⟨⟨items, S1⟩, ei, e⟩ := Option.bind_eq_some_iff.mp e
  dsimp only at e
  split at e
  case isFalse => cases e
  rename_i hl
  obtain ⟨hl, hno⟩ := hl
  obtain ⟨⟨ds, P⟩, er, e⟩ := Option.map_eq_some_iff.mp e
  cases e
  obtain ⟨sv, ed, g⟩ := g
  cases ed
  refine lc_gen hsl I ei hl hno er fun D H1 Hc acc s1 hD st hp h1 h2 => ?_
  obtain ⟨q1, q2, q3⟩ := freshAt s1.env hD
  refine g Hc D q1 q2 q3 (s1.unfresh hD) (s1.st.trans st) (grow s1.env hD st (by rw [h1]; exact fun z => nomatch z) hp) s1.own ⟨acc, h1, h2.kp (Keep.less fun a z => ?_)⟩
  rcases z with (z | z) | z
  · exact .inl (.inl z)
  · exact .inl (.inr z)
  · exact .inr (ownW' s1.env hno z)

/-! ### what a slot owns changes -/
theorem own_of {i : Nat} {ds : List D} (h : ownAt S i = some ds) : S.env[i]? = some (SV.own ds) := by
  unfold ownAt at h
  split at h
  · rename_i es e
    cases h
    exact e
  · cases h
theorem ownMutG (I : EnvR c F σ H S) {i : Nat} {x x' : SV} {q : Addr} {o' : HO} (e : S.env[i]? = some x) (hw : x.ow = true) (hw' : x'.ow = true) (hq : σ[i]? = some (some (V.ref q))) (hr : ∀ (B' : AP) (H' : Hp), Keep (Bad F σ S.env) B' H H' → H' q = some o' → x'.rp c.pa B' H' q) :
    EnvR c F σ (upd H q o') ⟨S.env.set i x', S.pot⟩ ∧ Keep (Bad F σ S.env) (Bad F σ (S.env.set i x')) H (upd H q o') := by
  obtain ⟨q', h1, h2, h4, h5⟩ := I.ow i x ⟨e, hw⟩
  rw [hq] at h1
  cases h1
  have hi : i < S.env.length := (List.getElem?_eq_some_iff.mp e).1
  have less : ∀ a, Own σ (S.env.set i x') a → Own σ S.env a := fun a ⟨j, es, ⟨e1, w⟩, e2⟩ => by
    rcases set_get e1 with ⟨z1, z⟩ | ⟨n, z⟩
    · subst z1
      exact ⟨i, x, ⟨e, hw⟩, e2⟩
    · exact ⟨j, es, ⟨z, w⟩, e2⟩
  have oq : Own σ S.env q := ⟨i, x, ⟨e, hw⟩, hq⟩
  have kp : Keep (Bad F σ S.env) (Bad F σ (S.env.set i x')) H (upd H q o') := fun a u ha na => by
    refine ⟨by rw [upd_ne (fun z => na (.inr (by rw [z]; exact oq)))]; exact ha, fun z => na (z.elim .inl fun w => .inr (less a w))⟩
  refine ⟨⟨by simp [I.len], fun a h => ?_, fun r er => ⟨(I.pot r er).1, ?_⟩, fun j d ej => ?_, fun j es ⟨ej, w⟩ => ?_, fun j k r es fs ⟨ej, w⟩ ⟨ek, w'⟩ e1 e2 => ?_, fun a u h n => ?_⟩, kp⟩
  · by_cases z : a = q
    · rw [z, upd_same]
      exact fun z => nomatch z
    · rw [upd_ne z]
      exact I.dom a h
  · rw [upd_ne (fun z => h4 (by rw [← z]; exact (I.pot r er).1))]
    exact (I.pot r er).2
  · rcases set_get ej with ⟨z1, z2⟩ | ⟨n, z⟩
    · rw [z2] at hw'
      cases hw'
    · obtain ⟨w, g1, g2⟩ := I.val j d z
      exact ⟨w, g1, g2.kp kp⟩
  · rcases set_get ej with ⟨z1, z2⟩ | ⟨n, z⟩
    · subst z2
      subst z1
      exact ⟨q, hq, hr _ _ kp upd_same, h4, h5⟩
    · obtain ⟨r, g1, g2, g4, g5⟩ := I.ow j es ⟨z, w⟩
      have ne : r ≠ q := fun zz => n (I.inj i j q _ es ⟨e, hw⟩ ⟨z, w⟩ hq (by rw [← zz]; exact g1))
      exact ⟨r, g1, g2.mv kp fun o z => by rw [upd_ne ne]; exact z, g4, g5⟩
  · have back : ∀ {j : Nat} {es : SV}, ((S.env.set i x')[j]? = some es ∧ es.ow = true) → ∃ es', S.env[j]? = some es' ∧ es'.ow = true := fun {j es} ⟨h, w⟩ => by
      rcases set_get h with ⟨z1, z2⟩ | ⟨n, z⟩
      · subst z1
        exact ⟨x, e, hw⟩
      · exact ⟨es, z, w⟩
    obtain ⟨es', g1⟩ := back ⟨ej, w⟩
    obtain ⟨fs', g2⟩ := back ⟨ek, w'⟩
    exact I.inj j k r es' fs' g1 g2 e1 e2
  · by_cases z : a = q
    · rw [z, h5] at h
      cases h
    · rw [upd_ne z]
      exact I.keep a u h n
theorem ownMut (I : EnvR c F σ H S) {i : Nat} {ds ds' : List D} {q : Addr} {xs' : List V} (e : S.env[i]? = some (SV.own ds)) (hq : σ[i]? = some (some (V.ref q))) (hr : RepL c.pa (Bad F σ S.env) H xs' ds') :
    EnvR c F σ (upd H q (.lst xs')) ⟨S.env.set i (.own ds'), S.pot⟩ ∧ Keep (Bad F σ S.env) (Bad F σ (S.env.set i (.own ds'))) H (upd H q (.lst xs')) :=
  ownMutG (x := .own ds) (x' := .own ds') I e rfl rfl hq fun B' H' k e' => ⟨xs', e', hr.kp k⟩
theorem setS_of {i : Nat} {v : SV} (h : setS i v S = some S') : S' = ⟨S.env.set i v, S.pot⟩ := by
  unfold setS at h
  split at h
  · cases h; rfl
  · cases h
theorem app_ok {x : Str} {i : Nat} {p1 apos cpos : Pos} (hN : X.N[i]? = some x) (hv : Vis X.env.scope x) (hd : (x == ("__debug__" : Str)) = false) (hcd : (x == ("__classdict__" : Str)) = false) (ha : PE X a (tE c true false fa)) (hline : (apos.endLine == cpos.line) = true)
    (hs : starEach [a] X.env = (false, eval a X.env) :: starEach [] X.env) :
    PS X (.Expr (.Call (.Attribute (.Name x p1) "append" apos) [a] [] cpos) pos) (tS c fun S => (ownAt S i).bind fun _ => bindF (fa S) fun d S => (ownAt S i).bind fun ds => if ds.length < LIM then (setS i (.own (ds ++ [d])) S).map .nx else none) := by
  have hfew : ((backTo cpos (starEach [a] X.env)).all (fun x => !x.1) && (backToKw cpos (keywordEach [] X.env)).all (fun x => x.1.isSome)
      && decide ([a].length + ([] : List Keyword).length + (if ([] : List Keyword).isEmpty then 0 else 1) < 30)) = true := by
    rw [hs]
    rfl
  have p := pe_bm (X := X) (name := "append") (apos := apos) (cpos := cpos) PySem.F.plainAttrs_list PySem.F.slot_list_append PySem.F.type_list_append (show MtR X "list.append" rAppend from mt_append) (pe_var (pos := p1) hN hv hd hcd) (pa_cons ha pa_nil hs) (by rfl) hfew hline hs (by rfl)
  refine PS.of (ps_expr p (by rfl)) fun Z σ H ⟨F, S, I, f⟩ => ?_
  obtain ⟨ds0, e0, f⟩ := FolS.opt f
  obtain ⟨q, xs, h1, h2, h3, h4, h5⟩ := I.own i ds0 (own_of e0)
  refine ⟨_, h1, .inl ⟨rfl, xs, SqL.of h2⟩, F, S, I, (FolS.bind (b := false) f).mono fun v H1 ⟨d, S1, s1, r1, f1⟩ => ?_⟩
  obtain ⟨ds, e1, f1⟩ := FolS.opt f1
  obtain ⟨fl, e2, k⟩ := f1
  split at e2
  case isFalse => cases e2
  rename_i hl
  obtain ⟨S2, e3, e4⟩ := Option.map_eq_some_iff.mp e2
  cases e4
  have eS := setS_of e3
  subst eS
  obtain ⟨q', ys, g1, g2, g3, g4, g5⟩ := s1.env.own i ds (own_of e1)
  rw [h1] at g1
  cases g1
  obtain ⟨I2, k2⟩ := ownMut s1.env (own_of e1) h1 (g3.append (.cons r1.rep .nil))
  exact ⟨q, ys, v, rfl, rfl, g2, by rw [g3.length, lim_eq]; exact hl, k σ _ I2 k2⟩
theorem ext_ok {x : Str} {i : Nat} {p1 apos cpos : Pos} (hN : X.N[i]? = some x) (hv : Vis X.env.scope x) (hd : (x == ("__debug__" : Str)) = false) (hcd : (x == ("__classdict__" : Str)) = false) (ha : PE X a (tE c true false fa)) (hline : (apos.endLine == cpos.line) = true)
    (hs : starEach [a] X.env = (false, eval a X.env) :: starEach [] X.env) :
    PS X (.Expr (.Call (.Attribute (.Name x p1) "extend" apos) [a] [] cpos) pos) (tS c fun S => (ownAt S i).bind fun _ => bindF (fa S) fun d S => match d with
    | .lst es => (ownAt S i).bind fun ds => if ds.length + es.length ≤ LIM then (setS i (.own (ds ++ es)) S).map .nx else none
    | _ => none) := by
  have hfew : ((backTo cpos (starEach [a] X.env)).all (fun x => !x.1) && (backToKw cpos (keywordEach [] X.env)).all (fun x => x.1.isSome)
      && decide ([a].length + ([] : List Keyword).length + (if ([] : List Keyword).isEmpty then 0 else 1) < 30)) = true := by
    rw [hs]
    rfl
  have p := pe_bm (X := X) (name := "extend") (apos := apos) (cpos := cpos) PySem.F.plainAttrs_list PySem.F.slot_list_extend PySem.F.type_list_extend (show MtR X "list.extend" rExtend from mt_extend) (pe_var (pos := p1) hN hv hd hcd) (pa_cons ha pa_nil hs) (by rfl) hfew hline hs (by rfl)
  refine PS.of (ps_expr p (by rfl)) fun Z σ H ⟨F, S, I, f⟩ => ?_
  obtain ⟨ds0, e0, f⟩ := FolS.opt f
  obtain ⟨q, xs, h1, h2, h3, h4, h5⟩ := I.own i ds0 (own_of e0)
  refine ⟨_, h1, .inl ⟨rfl, xs, SqL.of h2⟩, F, S, I, (FolS.bind (b := false) f).mono fun v H1 ⟨d, S1, s1, r1, f1⟩ => ?_⟩
  cases d with
  | lst es =>
    obtain ⟨ds, e1, f1⟩ := FolS.opt (show FolS c F σ H1 S1 ((ownAt S1 i).bind fun ds => if ds.length + es.length ≤ LIM then (setS i (.own (ds ++ es)) S1).map .nx else none) Z from f1)
    obtain ⟨fl, e2, k⟩ := f1
    split at e2
    case isFalse => cases e2
    rename_i hl
    obtain ⟨S2, e3, e4⟩ := Option.map_eq_some_iff.mp e2
    cases e4
    have eS := setS_of e3
    subst eS
    obtain ⟨q', ys, g1, g2, g3, g4, g5⟩ := s1.env.own i ds (own_of e1)
    rw [h1] at g1
    cases g1
    cases r1.rep with
    | lst w1 w2 w3 =>
      obtain ⟨I2, k2⟩ := ownMut s1.env (own_of e1) h1 (g3.append w3)
      exact ⟨q, _, ys, _, rfl, rfl, g2, w1, by rw [g3.length, w3.length, lim_eq]; exact hl, k σ _ I2 k2⟩
  | _ =>
    obtain ⟨fl, e2, k⟩ := f1
    cases e2

/-! ### two, three names at once -/
theorem setS_lt {i : Nat} {v : SV} (h : setS i v S = some S') : i < S.env.length := by
  unfold setS at h
  split at h
  · assumption
  · cases h
/-- ready: a value; or an object of its own that is forbidden so far -/
def Rdy (c : Ct) (F G : AP) (σ : L2.St) (H0 H : Hp) (env : List SV) (v : V) (sv : SV) : Prop :=
  (∃ d, sv = .val d ∧ Rep c.pa (Bad G σ env) H v d) ∨ (∃ q, v = .ref q ∧ sv.ow = true ∧ G q ∧ ¬ F q ∧ c.pa ≠ some q ∧ c.H0 q = none ∧ H0 q = none ∧ sv.rp c.pa (Bad G σ env) H q)
theorem Rdy.mv {F G G' : AP} {σ' : L2.St} {H0 H H' : Hp} {env env' : List SV} {v : V} {sv : SV} (h : Rdy c F G σ H0 H env v sv) (k : Keep (Bad G σ env) (Bad G' σ' env') H H') (kq : ∀ q o, G q → ¬ F q → c.pa ≠ some q → H q = some o → H' q = some o ∧ G' q) : Rdy c F G' σ' H0 H' env' v sv := by
  rcases h with ⟨d, e, r⟩ | ⟨q, e, w, g, n, np, h0, hH, r⟩
  · exact .inl ⟨d, e, r.kp k⟩
  · obtain ⟨o, ho⟩ := r.there
    exact .inr ⟨q, e, w, (kq q o g n np ho).2, n, np, h0, hH, r.mv k fun o z => (kq q o g n np z).1⟩
/-- one is stored; what is forbidden afterwards: at most what was -/
theorem rdy_put {F G : AP} {S : St'} {H0 H : Hp} {i : Nat} {v : V} {sv : SV} (I : EnvR c G σ H S) (hi : i < S.env.length) (h : Rdy c F G σ H0 H S.env v sv) :
    ∃ G', EnvR c G' (σ.set i (some v)) H ⟨S.env.set i sv, S.pot⟩ ∧ (∀ a, G' a → G a) ∧ (∀ a, G a → G' a ∨ (v = .ref a ∧ sv.ow = true)) ∧ (∀ a, Own (σ.set i (some v)) (S.env.set i sv) a → (Own σ S.env a) ∨ (G a ∧ ¬ F a ∧ H0 a = none ∧ v = .ref a)) ∧ (∀ a, v = .ref a → sv.ow = true → ¬ G' a) ∧ (sv.ow = false → G' = G) := by
  rcases h with ⟨d, rfl, r⟩ | ⟨q, rfl, w, g, n, np, h0, hH, r⟩
  · have t := setVal I hi r
    exact ⟨G, t.env, fun _ z => z, fun _ z => .inl z, fun a z => .inl (t.own a z), fun _ _ z => (nomatch z), fun _ => rfl⟩
  · have e : G = Plus (fun a => G a ∧ a ≠ q) q := by
      funext a
      apply propext
      constructor
      · intro z
        by_cases h : a = q
        · exact .inr h
        · exact .inl ⟨z, h⟩
      · rintro (z | z)
        · exact z.1
        · rw [z]; exact g
    rw [e] at I r
    obtain ⟨I2, l2⟩ := setOw (i := i) I (fun z => z.2 rfl) np h0 w r hi
    refine ⟨_, I2, fun a z => z.1, fun a z => ?_, fun a z => ?_, fun a z _ h => ?_, fun z => by rw [w] at z; cases z⟩
    · by_cases h : a = q
      · exact .inr ⟨by rw [h], w⟩
      · exact .inl ⟨z, h⟩
    · rcases l2 a z with z | z
      · rw [z]
        exact .inr ⟨g, n, hH, rfl⟩
      · exact .inl z
    · cases z
      exact h.2 rfl
/-- fewer forbidden ones -/
theorem EnvR.less {F G : AP} {S : St'} {H : Hp} (I : EnvR c G σ H S) (sub : ∀ a, F a → G a) (hp : ∀ a, c.pa = some a → F a) : EnvR c F σ H S := by
  have kp : Keep (Bad G σ S.env) (Bad F σ S.env) H H := Keep.less fun a z => z.elim (fun w => .inl (sub a w)) .inr
  refine ⟨I.len, fun a h => I.dom a (sub a h), fun r e => ⟨hp r e, (I.pot r e).2⟩, fun i d e => ?_, fun i ds e => ?_, I.inj, I.keep⟩
  · obtain ⟨v, h1, h2⟩ := I.val i d e
    exact ⟨v, h1, h2.kp kp⟩
  · obtain ⟨r, h1, h2, h4, h5⟩ := I.ow i ds e
    exact ⟨r, h1, h2.mv kp fun _ z => z, fun z => h4 (sub r z), h5⟩
/-- amid a right side -/
structure Mst (c : Ct) (F : AP) (σ : L2.St) (H : Hp) (S : St') (G : AP) (H1 : Hp) (S1 : St') : Prop where
  env : EnvR c G σ H1 S1
  st : StepE c.pa H H1
  own : ∀ a, Own σ S1.env a → Own σ S.env a
  sub : ∀ a, F a → G a
  pot : ∀ a, c.pa = some a → F a
theorem Mst.refl {F : AP} {S : St'} {H : Hp} (I : EnvR c F σ H S) : Mst c F σ H S F H S := ⟨I, StepE.refl _ _, fun _ z => z, fun _ z => z, fun a e => I.notpot e⟩
theorem mix_go {F G : AP} {S S1 : St'} {H H1 : Hp} {b : Bool} {f : St' → Option (Res × St')} {k : SV → St' → Option Fl} {fl : Fl} {Z : Ends} (M : Mst c F σ H S G H1 S1) (qz : EndS c F σ S H Z fl) (e : bindF (f S1) (fun d S => (svOf b d).bind fun sv => k sv S) = some fl)
    (g : ∀ v sv G2 S2 H2, k sv S2 = some fl → Mst c F σ H S G2 H2 S2 → Rdy c F G2 σ H H2 S2.env v sv → (∀ v' sv', Rdy c F G σ H H1 S1.env v' sv' → Rdy c F G2 σ H H2 S2.env v' sv' ∧ (sv.ow = true → sv'.ow = true → v ≠ v')) → Q v H2) : tX1 c b f σ H1 Q := by
  refine mix_step M.env e (fun x d S' ef H' cls dx s z => ?_) (fun v d S2 H2 e2 s r => ?_) fun p sv S2 H2 e2 hw nG np h0 hH st I2 ow hr => ?_
  · subst ef
    exact qz σ H' cls dx (s.env.less M.sub M.pot) (z.less fun a w => w.elim (fun w => .inl (M.sub a w)) .inr)
  · refine g v _ G S2 H2 e2 ⟨s.env, M.st.trans s.st, fun a z => M.own a (s.own a z), M.sub, M.pot⟩ (.inl ⟨d, rfl, r⟩) fun v' sv' h => ⟨h.mv s.kp fun q o gq _ np hq => ⟨s.st.keep q o hq np, gq⟩, fun z => (nomatch z)⟩
  · have kp : Keep (Bad G σ S1.env) (Bad (Plus G p) σ S2.env) H1 H2 := fun a u h n => by
      refine ⟨st.keep a u h fun e => n (.inl (M.sub a (M.pot a e))), fun z => ?_⟩
      rcases z with (z | z) | z
      · exact n (.inl z)
      · rw [z, hH] at h
        cases h
      · exact n (.inr (ow a z))
    have hHp : H p = none := by
      cases q : H p with
      | none => rfl
      | some o => exact absurd hH (M.st.dom p (by rw [q]; exact fun z => nomatch z))
    refine g _ sv (Plus G p) S2 H2 e2 ⟨I2, M.st.trans st, fun a z => M.own a (ow a z), fun a z => .inl (M.sub a z), M.pot⟩ (.inr ⟨p, rfl, hw, .inr rfl, fun z => nG (M.sub p z), np, h0, hHp, hr⟩) fun v' sv' h => ⟨h.mv kp fun q o gq _ np hq => ⟨st.keep q o hq np, .inl gq⟩, fun _ w' e => ?_⟩
    rcases h with ⟨d, ed, _⟩ | ⟨q, eq, _, _, _, _, _, _, r⟩
    · rw [ed] at w'
      cases w'
    · rw [eq] at e
      cases e
      obtain ⟨o, ho⟩ := r.there
      rw [hH] at ho
      cases ho
/-- amid the storing -/
structure Pst (c : Ct) (F : AP) (σ : L2.St) (H : Hp) (S : St') (G : AP) (H2 : Hp) (σ' : L2.St) (S' : St') : Prop where
  env : EnvR c G σ' H2 S'
  st : StepE c.pa H H2
  own : ∀ a, Own σ' S'.env a → Own σ S.env a ∨ H a = none
  sub : ∀ a, F a → G a
  pot : ∀ a, c.pa = some a → F a
theorem Mst.toP {F G : AP} {S S1 : St'} {H H1 : Hp} (M : Mst c F σ H S G H1 S1) : Pst c F σ H S G H1 σ S1 := ⟨M.env, M.st, fun a z => .inl (M.own a z), M.sub, M.pot⟩
theorem Pst.put {F G : AP} {S S' : St'} {H H2 : Hp} {σ' : L2.St} {i : Nat} {v : V} {sv : SV} (M : Pst c F σ H S G H2 σ' S') (hi : i < S'.env.length) (h : Rdy c F G σ' H H2 S'.env v sv) :
    ∃ G', Pst c F σ H S G' H2 (σ'.set i (some v)) ⟨S'.env.set i sv, S'.pot⟩ ∧ ∀ v' sv', Rdy c F G σ' H H2 S'.env v' sv' → (sv.ow = true → sv'.ow = true → v ≠ v') → Rdy c F G' (σ'.set i (some v)) H H2 (S'.env.set i sv) v' sv' := by
  obtain ⟨G', I, g1, g2, g3, g4, g5⟩ := rdy_put M.env hi h
  have nF : ∀ a, v = .ref a → sv.ow = true → ¬ F a := fun a e w z => by
    rcases h with ⟨d, ed, _⟩ | ⟨q, eq, _, _, n, _⟩
    · rw [ed] at w
      cases w
    · rw [eq] at e
      cases e
      exact n z
  refine ⟨G', ⟨I, M.st, fun a z => ?_, fun a z => ?_, M.pot⟩, fun v' sv' h' ne => ?_⟩
  · rcases g3 a z with z | ⟨_, _, z, _⟩
    · exact M.own a z
    · exact .inr z
  · rcases g2 a (M.sub a z) with z | ⟨e, w⟩
    · exact z
    · exact absurd z (nF a e w)
  · have kp : Keep (Bad G σ' S'.env) (Bad G' (σ'.set i (some v)) (S'.env.set i sv)) H2 H2 := Keep.less fun a z => by
      rcases z with z | z
      · exact .inl (g1 a z)
      · rcases g3 a z with z | ⟨z, _⟩
        · exact .inr z
        · exact .inl z
    rcases h' with ⟨d, e, r⟩ | ⟨q, e, w, g, n, np, h0, hH, r⟩
    · exact .inl ⟨d, e, r.kp kp⟩
    · refine .inr ⟨q, e, w, ?_, n, np, h0, hH, r.mv kp fun _ z => z⟩
      rcases g2 q g with z | ⟨e2, w2⟩
      · exact z
      · exact absurd (e2.trans e.symm) (ne w2 w)
theorem Pst.fin {F G : AP} {S S' : St'} {H H2 : Hp} {σ' : L2.St} {Z : Ends} (M : Pst c F σ H S G H2 σ' S') (q : EndS c F σ S H Z (.nx S')) : Z.nx σ' H2 :=
  q σ' H2 (M.env.less M.sub M.pot) fun a u ha na => ⟨M.st.keep a u ha fun e => na (.inl (M.pot a e)), fun z => by
    rcases z with z | z
    · exact na (.inl z)
    · rcases M.own a z with z | z
      · exact na (.inr z)
      · rw [z] at ha
        cases ha⟩
theorem par2_read {i j : Nat} {f1 f2 : Bool}
    (h : tS c (fun S => bindF (fa S) fun x S => (svOf f1 x).bind fun v => bindF (fb S) fun y S => (svOf f2 y).bind fun w => (setS i v S).bind fun S => (setS j w S).map .nx) Z σ H) :
    tPar i j (tCons (tX1 c f1 fa) (tCons (tX1 c f2 fb) tNil)) Z σ H := by
  obtain ⟨F, S, I, fl, e, q⟩ := h
  refine mix_go (Mst.refl I) q e fun v sv G S1 H1 e1 M1 r1 _ => ?_
  refine mix_go M1 q e1 fun w sw G2 S2 H2 e2 M2 r2 mv => ?_
  obtain ⟨r1', ne⟩ := mv _ _ r1
  obtain ⟨S3, e3, e4⟩ := Option.bind_eq_some_iff.mp e2
  obtain ⟨S4, e5, e6⟩ := Option.map_eq_some_iff.mp e4
  subst e6
  have l1 := setS_lt e3
  have l2 := setS_lt e5
  have q1 := setS_of e3
  have q2 := setS_of e5
  subst q1 q2
  obtain ⟨G3, P3, mv3⟩ := M2.toP.put l1 r1'
  obtain ⟨G4, P4, _⟩ := P3.put l2 (mv3 _ _ r2 fun a b z => ne b a z.symm)
  exact ⟨v, w, rfl, P4.fin q⟩
theorem par3_read {i j l : Nat} {f1 f2 f3 : Bool} {fc : St' → Option (Res × St')}
    (h : tS c (fun S => bindF (fa S) fun x S => (svOf f1 x).bind fun u => bindF (fb S) fun y S => (svOf f2 y).bind fun v => bindF (fc S) fun z S => (svOf f3 z).bind fun w => (setS i u S).bind fun S => (setS j v S).bind fun S => (setS l w S).map .nx) Z σ H) :
    tPar3 i j l (tCons (tX1 c f1 fa) (tCons (tX1 c f2 fb) (tCons (tX1 c f3 fc) tNil))) Z σ H := by
  obtain ⟨F, S, I, fl, e, q⟩ := h
  refine mix_go (Mst.refl I) q e fun v sv G S1 H1 e1 M1 r1 _ => ?_
  refine mix_go M1 q e1 fun w sw G2 S2 H2 e2 M2 r2 mv => ?_
  obtain ⟨r1', ne⟩ := mv _ _ r1
  refine mix_go M2 q e2 fun x sx G3 S3 H3 e3 M3 r3 mv3 => ?_
  obtain ⟨r1'', ne1⟩ := mv3 _ _ r1'
  obtain ⟨r2', ne2⟩ := mv3 _ _ r2
  obtain ⟨S4, e4, e5⟩ := Option.bind_eq_some_iff.mp e3
  obtain ⟨S5, e6, e7⟩ := Option.bind_eq_some_iff.mp e5
  obtain ⟨S6, e8, e9⟩ := Option.map_eq_some_iff.mp e7
  subst e9
  have l1 := setS_lt e4
  have l2 := setS_lt e6
  have l3 := setS_lt e8
  have q1 := setS_of e4
  have q2 := setS_of e6
  have q3 := setS_of e8
  subst q1 q2 q3
  obtain ⟨G4, P4, mv4⟩ := M3.toP.put l1 r1''
  obtain ⟨G5, P5, mv5⟩ := P4.put l2 (mv4 _ _ r2' fun a b z => ne b a z.symm)
  obtain ⟨G6, P6, _⟩ := P5.put l3 (mv5 _ _ (mv4 _ _ r3 fun a b z => ne1 b a z.symm) fun a b z => ne2 b a z.symm)
  exact ⟨v, w, x, rfl, P6.fin q⟩

/-! ### loops -/
theorem for_ok {tg iter : Expr} {body : List Stmt} {t : T} {fi : St' → Option (List D × St')} {f : St' → Option Fl} (hp : PassesOwn (model X.prog X.w) X.A X.env X.xe) (hc : X.calm = true) (hi : PI X tg iter (tI c true false fi)) (hg : PG X tg (tG c t)) (hb : PSs X body (tS c f))
    (hs : ∀ x, foldedSetIterable iter X.env x = pure x) : PS X (.For tg iter body [] pos) (tS c fun S => (fi S).bind fun (items, S) => forRun t f items S) :=
  PS.of (ps_for hp hc hi hg hb hs) fun Z σ H ⟨F, S, I, fl, e, k⟩ => by
    dsimp only at e
    obtain ⟨⟨items, S1⟩, ei, e⟩ := Option.bind_eq_some_iff.mp e
    refine ⟨F, S, I, items, S1, ei, fun J H1 s1 hJ => ?_⟩
    obtain ⟨KS, hKS, hJ⟩ := hJ
    refine ⟨fun i m σc Hc => m = items.length - i ∧ i ≤ items.length ∧ ∃ Sc, forRun t f (items.drop i) Sc = some fl ∧ EnvR c F σc Hc Sc ∧ Keep (Bad F σ S1.env) (Bad F σc Sc.env) H1 Hc, ⟨items.length, by simp, Nat.zero_le _, S1, e, s1.env, Keep.refl _ _⟩, ?_⟩
    rintro i m σc Hc ⟨rfl, hi, Sc, er, Ic, kc⟩
    have same : ∀ a, KS a → Hc a = H1 a := fun a ha => by
      cases q : H1 a with
      | none => exact absurd q (hKS a ha).2.1
      | some o => exact (kc a o q ((hKS a ha).2.2 rfl)).1
    obtain ⟨hgo, hstop, hy⟩ := hJ i Hc _ kc Ic.badDom same
    have kend := k.from s1.kp
    by_cases hlt : i < items.length
    · refine .inr ⟨hgo hlt, _, fun σ' H' w => ⟨items.length - (i + 1), by omega, w⟩, fun x H' y => ?_⟩
      obtain ⟨ex, rx⟩ := hy x H' y
      obtain ⟨d, hd⟩ := get_lt hlt
      have rx := rx d hd
      have I' := Ic.ext ex
      have ed : items.drop i = d :: items.drop (i + 1) := by
        rw [List.drop_eq_getElem_cons hlt]
        rw [List.getElem?_eq_getElem hlt] at hd
        rw [Option.some.inj hd]
      rw [ed] at er
      obtain ⟨env2, eb, er⟩ := Option.bind_eq_some_iff.mp (show ((bindT t d Sc.env).bind fun env => (f ⟨env, Sc.pot⟩).bind fun fl => match fl with
        | .nx S => forRun t f (items.drop (i + 1)) S
        | .ct S => forRun t f (items.drop (i + 1)) S
        | .brk S => some (.nx S)
        | fl => some fl) = some fl from er)
      obtain ⟨fl1, ef, er⟩ := Option.bind_eq_some_iff.mp er
      refine ⟨F, Sc, d, env2, I', rx, eb, fun σ2 t2 => ⟨F, ⟨env2, Sc.pot⟩, t2.env, fl1, ef, ?_⟩⟩
      have k2 : Keep (Bad F σ S1.env) (Bad F σ2 env2) H1 H' := (kc.trans (Ext.kp ex)).trans t2.kp
      cases fl1 with
      | nx S2 => exact fun σ3 H3 I3 k3 => ⟨rfl, hlt, S2, er, I3, k2.trans k3⟩
      | ct S2 => exact fun σ3 H3 I3 k3 => ⟨rfl, hlt, S2, er, I3, k2.trans k3⟩
      | brk S2 =>
        cases er
        exact fun σ3 H3 I3 k3 => kend σ3 H3 I3 (k2.trans k3)
      | ret d P =>
        cases er
        exact kend
      | exc y d S2 =>
        cases er
        exact kend
    · have ei2 : i = items.length := by omega
      subst ei2
      rw [List.drop_length] at er
      cases er
      exact .inl ⟨hstop (Nat.le_refl _), kend σc Hc Ic kc⟩
theorem while_ok {cd : Expr} {body : List Stmt} {f : St' → Option Fl} {n : Nat} (hp : PassesOwn (model X.prog X.w) X.A X.env X.xe) (hc : PT X cd (tT c true fc)) (hb : PSs X body (tS c f)) : PS X (.While cd body [] pos) (tS c (whileRun fc f n)) :=
  PS.of (ps_while hp hc hb) fun Z σ H ⟨F, S, I, fl, e, k⟩ => by
    refine ⟨fun m σc Hc => ∃ Sc, EnvR c F σc Hc Sc ∧ FolS c F σc Hc Sc (whileRun fc f m Sc) Z, ⟨n, S, I, fl, e, k⟩, ?_⟩
    rintro m σc Hc ⟨Sc, Ic, f1⟩
    cases m with
    | zero =>
      obtain ⟨fl, er, _⟩ := f1
      cases er
    | succ m =>
      refine ⟨F, Sc, Ic, (FolS.bindT (k := fun d (b : Bool) S => if b then (f S).bind fun fl => match fl with
        | .nx S => whileRun fc f m S
        | .ct S => whileRun fc f m S
        | .brk S => some (.nx S)
        | fl => some fl else some (.nx S)) f1).mono fun b H1 ⟨d, S1, e1, s1, fl', e2, k'⟩ => ?_⟩
      cases b with
      | false =>
        cases e2
        exact k' σc H1 s1.env (Keep.refl _ _)
      | true =>
        refine ⟨_, fun σ' H' w => ⟨m, Nat.lt_succ_self m, w⟩, F, S1, s1.env, ?_⟩
        obtain ⟨fl1, ef, er⟩ := Option.bind_eq_some_iff.mp (show ((f S1).bind fun fl => match fl with
          | .nx S => whileRun fc f m S
          | .ct S => whileRun fc f m S
          | .brk S => some (.nx S)
          | fl => some fl) = some fl' from e2)
        refine ⟨fl1, ef, ?_⟩
        cases fl1 with
        | nx S2 => exact fun σ3 H3 I3 k3 => ⟨S2, I3, fl', er, k'.from k3⟩
        | ct S2 => exact fun σ3 H3 I3 k3 => ⟨S2, I3, fl', er, k'.from k3⟩
        | brk S2 =>
          cases er
          exact k'
        | ret d P =>
          cases er
          exact k'
        | exc y d S2 =>
          cases er
          exact k'
end
end Ev

set_option Elab.async false
set_option linter.all false
set_option maxRecDepth 100000
set_option maxHeartbeats 4000000
/-! Ev16b: new objects for slots: dicts, lists; storing in dicts; pop. -/
namespace Ev
open PySem PySem.Spec PyProof.Rows L2
section
variable {c : Ct} {F : AP} {σ : L2.St} {H H' H'' : Hp} {S S' S'' : St'} {fz bo : Bool}
variable {X : Cx} {a b e o i : Expr} {pos p p2 : Pos} {fa fb fc : St' → Option (Res × St')} {Q : VK}
/-- a new object is laid behind a step -/
theorem new_at {S1 : St'} {H1 : Hp} {sv : SV} {ho : HO} {q : Addr} (s : Stp c F σ true H S H1 S1) (hq : H1 q = none)
    (hr : ∀ (B' : AP), Keep (Bad F σ S1.env) B' H1 (upd H1 q ho) → sv.rp c.pa B' (upd H1 q ho) q)
    (g : ∀ H' q, ¬ F q → c.pa ≠ some q → c.H0 q = none → H q = none → StepE c.pa H H' → EnvR c (Plus F q) σ H' S1 → (∀ a, Own σ S1.env a → Own σ S.env a) → sv.rp c.pa (Bad (Plus F q) σ S1.env) H' q → Q (.ref q) H') : Q (.ref q) (upd H1 q ho) := by
  obtain ⟨q1, q2, q3⟩ := freshAt s.env hq
  have sx : StepE c.pa H1 (upd H1 q ho) := StepE.new hq
  have pt : PotR c.pa F (upd H1 q ho) S1.pot := fun r e => ⟨(s.env.pot r e).1, by rw [upd_ne (ne_of_none (s.env.pot r e).2 hq)]; exact (s.env.pot r e).2⟩
  exact g _ q q1 q2 q3 (s.unfresh hq) (s.st.trans sx) (grow s.env hq sx (by rw [upd_same]; exact fun z => nomatch z) pt) s.own (hr _ (growK s.env hq sx))
theorem dctU_nil {a : Addr} (t : Bool) : DctU a t [] [] [] (if t then rawX a [] else .dK []) := by
  cases t with
  | false => exact ⟨[], rfl, rfl, rfl⟩
  | true => exact ⟨rfl, List.nodup_nil, (fun _ z => nomatch z), rfl⟩
theorem dnwF_ok (t : Bool) : PE X (.Dict [] [] pos) (tF c fun S => some (.val (.dct t [] []), S)) := by
  have h : PE X (.Dict [] [] pos) (fun _ H Q => ∀ p, H p = none → Q (.ref p) (upd H p (if t then rawX p [] else .dK []))) := by
    cases t with
    | false => exact pe_dnewK
    | true => exact pe_newR
  refine PE.of (pe_newL h) fun σ H Q ⟨F, S, I, r, S', e, g⟩ => ?_
  cases e
  obtain ⟨sv, es, g⟩ := g
  cases es
  refine fun q hq => ⟨q, _, rfl, upd_same, by cases t <;> exact trivial, fun od => ?_⟩
  rw [upd_upd]
  exact new_at (sv := .od t [] []) (Stp.refl I) hq (fun B' _ => ⟨_, [], [], upd_same, ⟨od, _, rfl, dctU_nil t⟩, .nil, .nil⟩) g
theorem Stp.minus {q : Addr} {ho : HO} {S1 : St'} {H1 : Hp} (s : Stp c (Plus F q) σ fz (upd H q ho) S H1 S1) (hq : H q = none) (np : c.pa ≠ some q) : Stp c F σ fz H S H1 S1 := ⟨s.env.minus np, (StepE.new hq).trans s.st, s.own, s.fr⟩
/-- {k: v} -/
theorem dn1F_ok (hu : X.A.units + 64 < cLine) (t : Bool) (ha : PE X a (tE c true false fa)) (hb : PE X b (tE c true false fb)) :
    PE X (.Dict [some a] [b] pos) (tF c fun S => bindR (fa S) fun k S => bindR (fb S) fun d S => if keyOk t k = true then some (.val (.dct t [k] [d]), S) else none) := by
  have main : ∀ σ H Q, tF c (fun S => bindR (fa S) fun k S => bindR (fb S) fun d S => if keyOk t k = true then some (.val (.dct t [k] [d]), S) else none) σ H Q → ∀ p, H p = none →
      tE c true false fa σ (upd H p (if t then rawX p [] else .dK [])) fun x H1 => tE c true false fb σ H1 fun y H2 => H2 p = some (if t then rawX p [] else .dK []) ∧ ∃ k, keyOk t k = true ∧ (∃ B, Rep c.pa B H2 x k) ∧
        ∀ u1, DctU p t [k] [x] [y] u1 → ∀ od, Q (.ref p) (upd H2 p (.frz od u1)) := by
    intro σ H Q ⟨F, S, I, r, S', e, g⟩ p hp
    obtain ⟨q1, np, q3⟩ := freshAt I hp
    have sx : StepE c.pa H (upd H p (if t then rawX p [] else .dK [])) := StepE.new hp
    have I1 : EnvR c (Plus F p) σ (upd H p (if t then rawX p [] else .dK [])) S := grow I hp sx (by rw [upd_same]; exact fun z => nomatch z) (B := F) (P := S.pot) fun r e => ⟨(I.pot r e).1, by rw [upd_ne (ne_of_none (I.pot r e).2 hp)]; exact (I.pot r e).2⟩
    dsimp only at e
    refine ⟨Plus F p, S, I1, ?_⟩
    generalize fa S = oa at e
    cases oa with
    | none => cases e
    | some y1 =>
      obtain ⟨ra, S1⟩ := y1
      cases ra with
      | exc x d =>
        cases e
        exact ⟨_, _, rfl, fun H1 s cls dx z => g H1 (s.minus hp np) cls dx (z.less fun a w => w.elim (fun w => .inl (.inl w)) .inr)⟩
      | val k =>
        refine ⟨.val k, S1, rfl, fun H1 s1 x hx => ?_⟩
        have e : bindR (fb S1) (fun d S => if keyOk t k = true then some (Res.val (.dct t [k] [d]), S) else none) = some (r, S') := e
        refine ⟨Plus F p, S1, s1.env, ?_⟩
        generalize fb S1 = ob at e
        cases ob with
        | none => cases e
        | some y2 =>
          obtain ⟨rb, S2⟩ := y2
          cases rb with
          | exc x d =>
            cases e
            exact ⟨_, _, rfl, fun H2 s2 cls dx z => g H2 ((s1.trans s2).minus hp np) cls dx (z.less fun a w => w.elim (fun w => .inl (.inl w)) .inr)⟩
          | val d =>
            refine ⟨.val d, S2, rfl, fun H2 s2 y hy => ?_⟩
            have e : (if keyOk t k = true then some (Res.val (.dct t [k] [d]), S2) else none) = some (r, S') := e
            split at e
            case isFalse => cases e
            rename_i hk
            cases e
            obtain ⟨sv, es, g⟩ := g
            cases es
            have hpa : H2 p = some (if t then rawX p [] else .dK []) := (s1.trans s2).st.keep p _ upd_same np
            have rx := (hx.mv s2).rep
            refine ⟨hpa, k, hk, ⟨_, rx⟩, fun u1 ho od => ?_⟩
            generalize ho1 : HO.frz od u1 = o1
            have kp : Keep (Bad (Plus F p) σ S'.env) (Bad (Plus F p) σ S'.env) H2 (upd H2 p o1) := fun a u h n => ⟨by rw [upd_ne (fun z => n (.inl (.inr z)))]; exact h, n⟩
            have s12 := (s1.trans s2).minus hp np
            have st : StepE c.pa H (upd H2 p o1) := ⟨fun a o h n => by rw [upd_ne (ne_of_none h hp)]; exact s12.st.keep a o h n, fun a h => by
              by_cases z : a = p
              · rw [z, upd_same]
                exact fun z => nomatch z
              · rw [upd_ne z]
                exact s12.st.dom a h⟩
            exact g (upd H2 p o1) p q1 np q3 hp st ((s1.trans s2).env.mutD (.inr rfl) np q3) s12.own ⟨o1, [x], [y], upd_same, ⟨od, u1, ho1.symm, ho⟩, .cons (rx.kp kp) .nil, .cons (hy.rep.kp kp) .nil⟩
  cases t with
  | false =>
    refine PE.of (pe_newL (pe_disp (pps_cons ha hb pps_nil) rfl rfl (fun z => nomatch z) (by show (1 : Nat) ≤ 15; omega))) fun σ H Q h p hp => ?_
    obtain ⟨F1, S1, I1, f1⟩ := main σ H Q h p hp
    refine ⟨F1, S1, I1, f1.mono fun x H1 ⟨F2, S2, I2, f2⟩ => ⟨F2, S2, I2, f2.mono fun y H2 ⟨hp2, k, hk, ⟨B, rx⟩, g⟩ => ?_⟩⟩
    obtain ⟨kk, rfl⟩ := isK_key (show isK k = true from hk)
    have ex := key_rep rx
    subst ex
    refine ⟨hp2, [(kk, y)], rfl, (by show (1 : Nat) ≤ 15; omega), p, _, rfl, upd_same, trivial, fun od => ?_⟩
    rw [upd_upd]
    exact g _ ⟨[(kk, y)], rfl, rfl, rfl⟩ od
  | true =>
    refine PE.of (pe_newL (pe_dispR hu ha hb)) fun σ H Q h p hp => ?_
    obtain ⟨F1, S1, I1, f1⟩ := main σ H Q h p hp
    refine ⟨F1, S1, I1, f1.mono fun x H1 ⟨F2, S2, I2, f2⟩ => ⟨F2, S2, I2, f2.mono fun y H2 ⟨hp2, k, hk, ⟨B, rx⟩, g⟩ => ?_⟩⟩
    have hk : kOk k = true := hk
    obtain ⟨kb, rfl, q⟩ := rep_key hk rx
    refine ⟨nkD k, kb, y, rfl, hp2, q, p, _, rfl, upd_same, trivial, fun od => ?_⟩
    rw [upd_upd]
    exact g _ ⟨rfl, by simp, (fun z hz => by cases List.mem_singleton.mp hz; exact hk), rfl⟩ od
/-- list(x), a list of its own -/
theorem listF_ok {fs : St' → Option (RL × St')} (hg : Gl X "list") (hm : X.mg "list" = none) (ha : PA X [a] (tA c true true fs)) (he : starEach [a] X.env = (false, eval a X.env) :: starEach [] X.env) :
    PE X (.Call (.Name "list" p) [a] [] pos) (tF c fun S => bindL (fs S) fun ds S => pureV (listF ds) S) :=
  PE.of (pe_callTy call_list_of hg hm (by decide +kernel) ha (by decide) (by decide) he rfl) fun σ H Q ⟨F, S, I, r, S', e, g⟩ => by
    refine ⟨F, S, I, ?_⟩
    dsimp only at e
    generalize fs S = o at e
    cases o with
    | none => cases e
    | some y =>
      obtain ⟨r1, S1⟩ := y
      cases r1 with
      | exc y d =>
        cases e
        exact ⟨.exc y d, _, rfl, fun H1 s => g H1 s⟩
      | vals ds =>
        have e : (listF ds).map (fun d => (Res.val d, S1)) = some (r, S') := e
        obtain ⟨d, e1, e2⟩ := Option.map_eq_some_iff.mp e
        cases e2
        obtain ⟨sv, es, g⟩ := g
        refine ⟨.vals ds, _, rfl, fun H1 s vs hv => ?_⟩
        unfold listF at e1
        split at e1
        · cases e1
          cases es
          obtain ⟨v, rfl, rv⟩ := hv.b.one
          obtain ⟨a, ys, rfl, h1, n, h2⟩ := rv.tup
          exact ⟨a, ys, rfl, .inr (SqT.of h1), fun q hq => new_at (sv := .own _) s hq (fun B' k => ⟨ys, upd_same, h2.kp k⟩) g⟩
        · cases e1
          cases es
          obtain ⟨v, rfl, rv⟩ := hv.b.one
          obtain ⟨a, ys, rfl, h1, h2⟩ := rv.lst
          exact ⟨a, ys, rfl, .inl (SqL.of h1), fun q hq => new_at (sv := .own _) s hq (fun B' k => ⟨ys, upd_same, h2.kp k⟩) g⟩
        · cases e1
theorem mulX_lst {x y d : D} {sv : SV} (h : mulX x y = some d) (es : svOf true d = some sv) : ∃ xs k, x = .lst xs ∧ y = .int k ∧ 0 ≤ k ∧ k ≤ 1000 ∧ xs.length ≤ 1000 ∧ d = .lst (repF k xs) := by
  unfold mulX at h
  split at h
  · split at h
    · cases h
      cases es
    · cases h
  · split at h
    · rename_i hk
      cases h
      exact ⟨_, _, rfl, rfl, hk.1, hk.2.1, hk.2.2, rfl⟩
    · cases h
  · unfold mulD at h
    split at h
    · split at h
      · cases h
        cases es
      · cases h
    · cases h
/-- [..] * n, a list of its own -/
theorem mulF_ok (ha : PE X a (tE c true true fa)) (hb : PE X b (tE c true true fb)) : PE X (.BinOp a .Mult b pos) (tF c fun S => bindR (fa S) fun x S => bindR (fb S) fun y S => pureV (binD .mul x y) S) :=
  PE.of (pe_op op_rep ha hb) fun σ H Q ⟨F, S, I, r, S', e, g⟩ => by
    refine ⟨F, S, I, ?_⟩
    dsimp only at e
    generalize fa S = oa at e
    cases oa with
    | none => cases e
    | some y1 =>
      obtain ⟨ra, S1⟩ := y1
      cases ra with
      | exc x d =>
        cases e
        exact ⟨_, _, rfl, fun H1 s => g H1 s⟩
      | val x =>
        refine ⟨.val x, S1, rfl, fun H1 s1 v hv => ?_⟩
        have e : bindR (fb S1) (fun y S => pureV (binD .mul x y) S) = some (r, S') := e
        refine ⟨F, S1, s1.env, ?_⟩
        generalize fb S1 = ob at e
        cases ob with
        | none => cases e
        | some y2 =>
          obtain ⟨rb, S2⟩ := y2
          cases rb with
          | exc x d =>
            cases e
            exact ⟨_, _, rfl, fun H2 s2 => g H2 (s1.trans s2)⟩
          | val y =>
            refine ⟨.val y, S2, rfl, fun H2 s2 w hw => ?_⟩
            have e : (binD .mul x y).map (fun d => (Res.val d, S2)) = some (r, S') := e
            obtain ⟨d, e1, e2⟩ := Option.map_eq_some_iff.mp e
            cases e2
            obtain ⟨sv, es, g⟩ := g
            have e1 : mulX x y = some d := e1
            obtain ⟨xs, k, rfl, rfl, k2, k3, k4, rfl⟩ := mulX_lst e1 es
            cases es
            have e3 := hw.b.int
            subst e3
            obtain ⟨q, ys, rfl, hq, hr⟩ := (hv.mv s2).b.lst
            refine ⟨q, k, ys, rfl, rfl, hq, by omega, by omega, ?_, fun p hp => new_at (sv := .own _) (s1.trans s2) hp (fun B' kk => ⟨_, upd_same, (hr.rep _).kp kk⟩) g⟩
            rw [hr.length, sizeLine_eq]
            have a1 : xs.length * k.toNat ≤ 1000 * 1000 := Nat.mul_le_mul k4 (by omega)
            omega
/-! ### storing in a dict -/
theorem od_of {i : Nat} {x : Bool × List D × List D} (h : odAt S i = some x) : S.env[i]? = some (SV.od x.1 x.2.1 x.2.2) := by
  unfold odAt at h
  split at h
  · rename_i t ks vs e
    cases h
    exact e
  · cases h
theorem dput_ok {x : Str} (h0 : ∀ a, c.H0 a = none → X.H_0 a = none) {i : Nat} {y v : Expr} {p1 p2 pos : Pos} {fe fx : St' → Option (Res × St')} (hu : X.A.units + 64 < cLine) (hN : X.N[i]? = some x) (hv : Vis X.env.scope x) (hd : (x == ("__debug__" : Str)) = false) (hcd : (x == ("__classdict__" : Str)) = false) (he : PE X v (tE c true false fe)) (hx : PE X y (tE c true false fx))
    (hs : swapsWith v (some (.Subscript (.Name x p1) y p2)) pos.line X.env = pure false) :
    PS X (.Assign [.Subscript (.Name x p1) y p2] v pos) (tS c fun S => bindF (fe S) fun d S => (odAt S i).bind fun _ => bindF (fx S) fun k S => (odAt S i).bind fun x =>
      if keyOk x.1 k = true ∧ x.2.1.length < LIM then (setS i (.od x.1 (putD x.2.1 x.2.2 k d).1 (putD x.2.1 x.2.2 k d).2) S).map .nx else none) :=
  PS.of (ps_aput hu (pe_var (pos := p1) hN hv hd hcd) hx he hs) fun Z σ H ⟨F, S, I, f⟩ => by
    refine ⟨F, S, I, (FolS.bind (b := false) f).mono fun w H1 ⟨d, S1, s1, r1, f1⟩ => ?_⟩
    obtain ⟨x0, e0, f1⟩ := f1.opt
    obtain ⟨q, o, kxs, vxs, h1, h2, h3, h4, h6, h7, h8⟩ := s1.env.od i _ _ _ (od_of e0)
    refine ⟨_, h1, F, S1, s1.env, (FolS.bind (b := false) f1).mono fun u H2 ⟨k, S2, s2, r2, f2⟩ => ?_⟩
    obtain ⟨⟨t, ks, vs⟩, e1, f2⟩ := f2.opt
    obtain ⟨fl, e2, kz⟩ := f2
    dsimp only at e2
    split at e2
    case isFalse => cases e2
    rename_i hk
    obtain ⟨S3, e3, e4⟩ := Option.map_eq_some_iff.mp e2
    cases e4
    have eS := setS_of e3
    subst eS
    obtain ⟨q', o', kxs', vxs', g1, g2, g3, g4, g5, g6, g7⟩ := s2.env.od i _ _ _ (od_of e1)
    rw [h1] at g1
    cases g1
    obtain ⟨od, u', rfl, g3⟩ := g3
    obtain ⟨o2, ap, hr⟩ := aput_of g2 g3 g4 g5 r2.rep hk.1 (r1.mv s2).rep hk.2
    refine ⟨q, _, rfl, h0 _ g7, ap, fun od' => ?_⟩
    obtain ⟨I2, k2⟩ := ownMutG (x := .od t ks vs) (x' := .od t (putD ks vs k d).1 (putD ks vs k d).2) s2.env (od_of e1) rfl rfl h1 (hr od')
    exact kz σ _ I2 k2
/-! ### d.update(e) -/
/-- a method of a dict, locked -/
def IsDH (H : Hp) (a : Addr) : Prop := ∃ od u, H a = some (.frz od u) ∧ ((∃ kvs, u = .dK kvs) ∨ ∃ hs ks vs, u = RawE a hs ks vs)
theorem isDH_ty {pins : List (Addr × Obj)} {σ : L2.St} {H : Hp} {s : Shared} {a : Addr} (I : Inv X pins σ H s) (h : IsDH H a) : s.TypeIs (.ref a) "dict" ∧ ∀ b, Value.ref a = .ref b → ∃ ob, s.heap.get? b = some ob ∧ ob.dict = none := by
  obtain ⟨od, u, e, h⟩ := h
  have main : ∃ o : Obj, s.heap.get? a = some o ∧ o.ExactDict := by
    rcases h with ⟨kvs, rfl⟩ | ⟨hs, ks, vs, rfl⟩
    · obtain ⟨_, hg, hx, _⟩ := I.frzK e
      exact ⟨od, hg, hx⟩
    · obtain ⟨_, ⟨_, _, o, es, ep, h1, h2, _⟩, _⟩ := (show ObjOk X.prog X.w H s.heap a (.frz od (RawE a hs ks vs)) from I.hok a _ e)
      exact ⟨o, h1, h2⟩
  obtain ⟨o, h1, h2⟩ := main
  exact ⟨⟨o, h1, h2.1⟩, fun b q => by
    cases q
    exact ⟨o, h1, h2.2.1⟩⟩
def tBMD (r : V → List V → Hp → VK → Prop) (to : TE) (t : TA) : TE := fun σ H Q => to σ H fun x H1 => (∃ a, x = .ref a ∧ IsDH H1 a) ∧ t σ H1 fun xs H2 => r x xs H2 Q
theorem pe_bmD {o e : Expr} {es : List Expr} {to : TE} {t : TA} {name : Str} {apos cpos : Pos} {id : String} {r : V → List V → Hp → VK → Prop} (pa : PlainAttrs "dict") (slot : Slot "dict" name id) (hty : typeOf (.builtin id) = pure (.type "method_descriptor")) (hm : MtR X id r) (ho : PE X o to) (ha : PA X (e :: es) t)
    (hbase : attributeBase o name X.env (eval o X.env) = eval o X.env)
    (hfew : ((backTo cpos (starEach (e :: es) X.env)).all (fun x => !x.1) && (backToKw cpos (keywordEach [] X.env)).all (fun x => x.1.isSome)
      && decide ((e :: es).length + ([] : List Keyword).length + (if ([] : List Keyword).isEmpty then 0 else 1) < 30)) = true)
    (hline : (apos.endLine == cpos.line) = true) (hs : starEach (e :: es) X.env = (false, eval e X.env) :: starEach es X.env) (hplain : (backTo cpos (starEach es X.env)).any (·.1) = false) :
    PE X (.Call (.Attribute o name apos) (e :: es) [] cpos) (tBMD r to t) := by
  refine ⟨fun pins s σ H Q I h => ?_⟩
  refine wpAny_Call_method_late hbase hfew hline rfl (thn (ho.run pins s σ H _ I h) fun v s1 ⟨x, H1, I1, r1, ⟨a, ex, ty⟩, q1⟩ => ?_)
  subst ex
  obtain rfl : v = Value.ref a := r1
  obtain ⟨h1, h2⟩ := isDH_ty I1 ty
  refine ⟨"dict", id, pa, slot, hty, h1, h2, ?_⟩
  have hA := ha.run cpos pins s1 σ H1 _ I1 q1
  rw [hs] at hA ⊢
  refine Calls.callWith_builtin (by show (false || (backTo cpos (starEach es X.env)).any (·.1)) = false; rw [hplain] <;> rfl) (Calls.evalArgs_plain ?_)
  exact thn hA fun us s2 ⟨vs, H2, I2, r2, q2⟩ => hm pins s2 σ H2 (.ref a) vs (.ref a) us Q I2 rfl r2 q2
def rUpd (H0 : Hp) : V → List V → Hp → VK → Prop := fun x xs H Q => ∃ a b od kvs more, x = .ref a ∧ xs = [.ref b] ∧ H a = some (.frz od (.dK kvs)) ∧ Rd H b (.dK more) ∧ a ≠ b ∧ kvs.length + more.length ≤ sizeLine ∧ H0 a = none ∧ ∀ od', Q .non (upd H a (.frz od' (.dK (mergeK kvs more))))
theorem mt_update : MtR X "dict.update" (rUpd X.H_0) := by
  intro pins s σ H x xs v us Q I rx rs h
  obtain ⟨a, b, od, kvs, more, rfl, rfl, hA, hB, ne, hz, h0, q⟩ := h
  obtain ⟨u, rfl, ru⟩ := vals1 rs
  obtain rfl : v = Value.ref a := rx
  obtain rfl : u = Value.ref b := ru
  obtain ⟨z1, hd1, vs1, rel1, dd1⟩ := dk_rd I.hok (a := a) (kvs := kvs) (.inr ⟨od, hA⟩)
  obtain ⟨z2, hd2, vs2, rel2, dd2⟩ := dk_rd I.hok hB
  refine call_meetsIn PySem.F.slot_dict_update dd1.typeIs PySem.F.entry_dict_update (PySem.F.args_dict_update_2 _ _) (meets_dict_update (mixKind X.prog X.w) a b ne hd2)
    ⟨vs1, vs2, dd1, dd2, (by rw [← rel1.length, ← rel2.length]; exact hz), fun h' hmm _ hs => ?_⟩
  have I1 := I.unlock hA (fun o' u' z => by rw [h0] at z; cases z)
  have I2 : Inv X pins σ (upd (upd H a (.dK kvs)) a (.dK (mergeK kvs more))) { s with heap := h' } := by
    refine d_write (t' := s.toks) I1 ?_ hs ?_ (dk_new ?_ hd1 (KV.merge rel2 rel1) hmm)
    · rw [upd_same]
      exact trivial
    · obtain ⟨o, _, _, ho, _⟩ := hmm
      exact ⟨o, ho⟩
    · exact Nat.le_trans (length_mergeK more kvs) hz
  rw [upd_upd] at I2
  obtain ⟨od', I3⟩ := I2.lock upd_same trivial
  rw [upd_upd] at I3
  exact ⟨.non, _, I3, rfl, q od'⟩
theorem mergeK_rep {pa : Option Addr} {B : AP} {H : Hp} : ∀ {more : List (Key × V)} {kr vr : List D} {kvs : List (Key × V)} {ks vs : List D}, RepL pa B H (more.map fun p => kV p.1) kr → RepL pa B H (more.map (·.2)) vr → RepL pa B H (kvs.map fun p => kV p.1) ks → RepL pa B H (kvs.map (·.2)) vs →
    RepL pa B H ((mergeK kvs more).map fun p => kV p.1) (mergeD ks vs kr vr).1 ∧ RepL pa B H ((mergeK kvs more).map (·.2)) (mergeD ks vs kr vr).2
  | [], kr, vr, kvs, ks, vs, h1, h2, h3, h4 => by
    cases h1
    exact ⟨h3, h4⟩
  | p :: more, kr, vr, kvs, ks, vs, h1, h2, h3, h4 => by
    cases kr with
    | nil => cases h1
    | cons k kr =>
      cases vr with
      | nil => cases h2
      | cons v vr =>
        cases h1 with
        | cons a1 a2 =>
          cases h2 with
          | cons b1 b2 =>
            have e := rep_kV a1
            subst e
            obtain ⟨c1, c2⟩ := putK_rep (k := p.1) b1 h3 h4
            have r := mergeK_rep a2 b2 c1 c2
            exact r
theorem dupd_ok {x : Str} (h0 : ∀ a, c.H0 a = none → X.H_0 a = none) {i : Nat} {e : Expr} {px apos cpos pos : Pos} {fe : St' → Option (Res × St')} (hN : X.N[i]? = some x) (hvx : Vis X.env.scope x) (hdx : (x == ("__debug__" : Str)) = false) (hcdx : (x == ("__classdict__" : Str)) = false) (he : PE X e (tE c true false fe)) (hline : (apos.endLine == cpos.line) = true) (hs : starEach [e] X.env = (false, eval e X.env) :: starEach [] X.env) :
    PS X (.Expr (.Call (.Attribute (.Name x px) "update" apos) [e] [] cpos) pos) (tS c fun S => (odAt S i).bind fun _ => bindF (fe S) fun d S => (odAt S i).bind fun x => (updD x d).bind fun y => (setS i (.od false y.1 y.2) S).map .nx) := by
  have hfew : ((backTo cpos (starEach [e] X.env)).all (fun x => !x.1) && (backToKw cpos (keywordEach [] X.env)).all (fun x => x.1.isSome)
      && decide ([e].length + ([] : List Keyword).length + (if ([] : List Keyword).isEmpty then 0 else 1) < 30)) = true := by
    rw [hs]
    rfl
  have p := pe_bmD (X := X) (name := "update") (apos := apos) (cpos := cpos) PySem.F.plainAttrs_dict PySem.F.slot_dict_update PySem.F.type_dict_update mt_update (pe_var (pos := px) hN hvx hdx hcdx) (pa_cons he pa_nil hs) (by rfl) hfew hline hs (by rfl)
  refine PS.of (ps_expr p (by rfl)) fun Z σ H ⟨F, S, I, f⟩ => ?_
  obtain ⟨x0, e0, f⟩ := FolS.opt f
  obtain ⟨q, o, kxs, vxs, h1, h2, h3, h4, h6, h7, h8⟩ := I.od i _ _ _ (od_of e0)
  have hD : IsDH H q := by
    obtain ⟨od, u, rfl, h3⟩ := h3
    cases hx : x0.1 with
    | false =>
      rw [hx] at h3
      obtain ⟨kvs, rfl, _⟩ := (show ∃ kvs : List (Key × V), u = .dK kvs ∧ kxs = kvs.map (fun p => kV p.1) ∧ vxs = kvs.map (·.2) from h3)
      exact ⟨od, _, h2, .inl ⟨kvs, rfl⟩⟩
    | true =>
      rw [hx] at h3
      exact ⟨od, _, h2, .inr ⟨_, _, _, h3.1⟩⟩
  refine ⟨_, h1, ⟨q, rfl, hD⟩, F, S, I, (FolS.bind (b := false) f).mono fun u H1 ⟨d, S1, s1, r1, f1⟩ => ?_⟩
  obtain ⟨⟨t, ks, vs⟩, e1, f2⟩ := f1.opt
  obtain ⟨y, e2, f3⟩ := f2.opt
  obtain ⟨fl, e3, kz⟩ := f3
  obtain ⟨S2, e4, e5⟩ := Option.map_eq_some_iff.mp e3
  cases e5
  have q2 := setS_of e4
  subst q2
  cases d with
  | dct t2 kr vr =>
    cases t2 with
    | true => cases e2
    | false =>
      have e2 : (if t = false ∧ ks.length + kr.length ≤ LIM then some (mergeD ks vs kr vr) else none) = some y := e2
      split at e2
      case isFalse => cases e2
      rename_i hk
      cases e2
      obtain ⟨rfl, hl⟩ := hk
      obtain ⟨q', o', kxs', vxs', g1, g2, g3, g4, g5, g6, g7⟩ := s1.env.od i _ _ _ (od_of e1)
      rw [h1] at g1
      cases g1
      obtain ⟨od, u2, rfl, g3⟩ := g3
      obtain ⟨kvs, rfl, rfl, rfl⟩ := (show ∃ kvs : List (Key × V), u2 = .dK kvs ∧ kxs' = kvs.map (fun p => kV p.1) ∧ vxs' = kvs.map (·.2) from g3)
      cases (r1.rep) with
      | @dct b ob _ _ _ kx2 vx2 w1 w2 w3 w4 w5 =>
        obtain ⟨od2, u3, rfl, w2⟩ := w2
        obtain ⟨more, rfl, rfl, rfl⟩ := (show ∃ kvs : List (Key × V), u3 = .dK kvs ∧ kx2 = kvs.map (fun p => kV p.1) ∧ vx2 = kvs.map (·.2) from w2)
        have l1 : kvs.length = ks.length := by rw [← g4.length, List.length_map]
        have l2 : more.length = kr.length := by rw [← w4.length, List.length_map]
        refine ⟨q, b, od, kvs, more, rfl, rfl, g2, .inr ⟨od2, w1⟩, fun z => w3 (by rw [← z]; exact .inr ⟨i, _, ⟨od_of e1, rfl⟩, h1⟩), by rw [l1, l2, lim_eq]; exact hl, h0 _ g7, fun od' => ?_⟩
        obtain ⟨c1, c2⟩ := mergeK_rep w4 w5 g4 g5
        obtain ⟨I2, k2⟩ := ownMutG (x := .od false ks vs) (x' := .od false (mergeD ks vs kr vr).1 (mergeD ks vs kr vr).2) s1.env (od_of e1) rfl rfl h1 (o' := .frz od' (.dK (mergeK kvs more))) fun B' H' kp e => ⟨_, _, _, e, ⟨od', _, rfl, _, rfl, rfl, rfl⟩, c1.kp kp, c2.kp kp⟩
        exact kz σ _ I2 k2
  | _ => cases e2
/-! ### pop -/
theorem pop_at {l : Addr} {xs : List V} {ds ds' : List D} {k : Int} {d : D} {B : AP} (h1 : H l = some (.lst xs)) (h2 : RepL c.pa B H xs ds) (e : popD ds k = some (d, ds')) :
    ∃ j y, -(2 ^ 63) ≤ k ∧ k < 2 ^ 63 ∧ seqIndex? k xs.length = some j ∧ xs[j]? = some y ∧ Rep c.pa B H y d ∧ RepL c.pa B H (xs.eraseIdx j) ds' := by
  unfold popD at e
  split at e
  case isFalse => cases e
  rename_i hl
  obtain ⟨j, e1, e2⟩ := Option.bind_eq_some_iff.mp e
  obtain ⟨d', e3, e4⟩ := Option.map_eq_some_iff.mp e2
  cases e4
  obtain ⟨q1, q2, q3, q4⟩ := ixN_seq e1
  obtain ⟨y, g1, g2⟩ := h2.get e3
  have hL : (LIM : Nat) = 16777216 := rfl
  exact ⟨j, y, by omega, by omega, by rw [h2.length]; exact q1, g1, g2, h2.erase j⟩
theorem pe_popAt {o e : Expr} {to : TE} {te : TE} {apos cpos : Pos} (ho : PE X o to) (he : PE X e te) (hb : attributeBase o "pop" X.env (eval o X.env) = eval o X.env) (hline : (apos.endLine == cpos.line) = true) (hs : starEach [e] X.env = (false, eval e X.env) :: starEach [] X.env) :
    PE X (.Call (.Attribute o "pop" apos) [e] [] cpos) (tBM X.K "list" rPopAt to (tCons te tNil)) := by
  have hfew : ((backTo cpos (starEach [e] X.env)).all (fun x => !x.1) && (backToKw cpos (keywordEach [] X.env)).all (fun x => x.1.isSome)
      && decide ([e].length + ([] : List Keyword).length + (if ([] : List Keyword).isEmpty then 0 else 1) < 30)) = true := by
    rw [hs]
    rfl
  exact pe_bm (X := X) (name := "pop") (apos := apos) (cpos := cpos) PySem.F.plainAttrs_list PySem.F.slot_list_pop PySem.F.type_list_pop (show MtR X "list.pop" rPopAt from mt_popAt) ho (pa_cons he pa_nil hs) hb hfew hline hs (by rfl)
/-- what is popped from a slot's own list -/
theorem pop_read {r : Nat} {K : Frag} {x : V → Hp → Prop} (hK : True) (Sf : St' → D → Option Fl) {fe : St' → Option (Res × St')} {k : D → List D → St' → Option Fl} {Z : Ends} (I : EnvR c F σ H S)
    (f : FolS c F σ H S ((ownAt S r).bind fun _ => bindF (fe S) fun y S => (intOf y).bind fun i => (ownAt S r).bind fun ds => (popD ds i).bind fun p => k p.1 p.2 S) Z)
    (g : ∀ v d ds0 ds H1 S1 q xs, FolS c F σ H1 S1 (k d ds S1) Z → Stp c F σ true H S H1 S1 → S1.env[r]? = some (.own ds0) → σ[r]? = some (some (.ref q)) → H1 q = some (.lst xs) → ∀ xs', RepL c.pa (Bad F σ S1.env) H1 xs' ds → Rep c.pa (Bad F σ S1.env) H1 v d → Q v (upd H1 q (.lst xs'))) :
    tBM K "list" rPopAt (tVar r) (tCons (tE c true true fe) tNil) σ H Q := by
  obtain ⟨ds0, e0, f⟩ := f.opt
  obtain ⟨q, xs, h1, h2, h3, h4, h5⟩ := I.own r ds0 (own_of e0)
  refine ⟨_, h1, .inl ⟨rfl, xs, SqL.of h2⟩, F, S, I, (FolS.bind (b := true) f).mono fun u H1 ⟨dk, S1, s1, r1, f1⟩ => ?_⟩
  obtain ⟨n, e1, f2⟩ := f1.opt
  obtain ⟨ds, e2, f3⟩ := f2.opt
  obtain ⟨⟨d, ds'⟩, e3, f4⟩ := f3.opt
  cases dk with
  | int m =>
    cases e1
    have hu := r1.b.int
    subst hu
    obtain ⟨q', ys, g1, g2, g3, g4, g5⟩ := s1.env.own r ds (own_of e2)
    rw [h1] at g1
    cases g1
    obtain ⟨j, y, b1, b2, b3, b4, b5, b6⟩ := pop_at g2 g3 e3
    exact ⟨q, ys, n, j, y, rfl, rfl, g2, b1, b2, b3, b4, g y d ds ds' H1 S1 q ys f4 s1 (own_of e2) h1 g2 _ b6 b5⟩
  | _ => cases e1
/-- x = r.pop(e) -/
theorem setPop_ok {x y : Str} {i r : Nat} {px py apos cpos pos : Pos} {fe : St' → Option (Res × St')} (hnd : X.N.Nodup) (hN : X.N[i]? = some x) (hx : L2.Loc X.env.scope x) (hf : X.fn x = true ∨ X.env.scope.names.lookup x = some .local)
    (hR : X.N[r]? = some y) (hv : Vis X.env.scope y) (hd : (y == ("__debug__" : Str)) = false) (hcd : (y == ("__classdict__" : Str)) = false) (he : PE X e (tE c true true fe)) (hline : (apos.endLine == cpos.line) = true) (hs : starEach [e] X.env = (false, eval e X.env) :: starEach [] X.env) :
    PS X (.Assign [.Name x px] (.Call (.Attribute (.Name y py) "pop" apos) [e] [] cpos) pos) (tS c fun S => (ownAt S r).bind fun _ => bindF (fe S) fun y S => (intOf y).bind fun n => (ownAt S r).bind fun ds => (popD ds n).bind fun p => (setS r (.own p.2) S).bind fun S => (setS i (.val p.1) S).map .nx) :=
  PS.of (ps_set hnd hN hx (pe_popAt (pe_var (pos := py) hR hv hd hcd) he (by rfl) hline hs) (by rfl) hf) fun Z σ H ⟨F, S, I, f⟩ => by
    refine pop_read (x := fun _ _ => True) trivial (fun _ _ => none) (k := fun d ds S => (setS r (.own ds) S).bind fun S => (setS i (.val d) S).map .nx) I f fun v d ds0 ds H1 S1 q xs f1 s1 e1 hq h1 xs' hr rv => ?_
    obtain ⟨S2, e2, fl, e3, kz⟩ := f1.opt
    obtain ⟨S3, e4, e5⟩ := Option.map_eq_some_iff.mp e3
    cases e5
    have q2 := setS_of e2
    have l3 := setS_lt e4
    have q3 := setS_of e4
    subst q2 q3
    obtain ⟨I2, k2⟩ := ownMut s1.env e1 hq hr
    have t := setVal I2 l3 (rv.kp k2)
    exact kz _ _ t.env (k2.trans t.kp)
/-- f.append(r.pop(e)) -/
theorem appPop_ok {x y : Str} {i r : Nat} {px py apos apos2 cpos cpos2 pos : Pos} {fe : St' → Option (Res × St')} (hN : X.N[i]? = some x) (hvx : Vis X.env.scope x) (hdx : (x == ("__debug__" : Str)) = false) (hcdx : (x == ("__classdict__" : Str)) = false)
    (hR : X.N[r]? = some y) (hv : Vis X.env.scope y) (hd : (y == ("__debug__" : Str)) = false) (hcd : (y == ("__classdict__" : Str)) = false) (he : PE X e (tE c true true fe)) (hline : (apos.endLine == cpos.line) = true) (hline2 : (apos2.endLine == cpos2.line) = true) (hs : starEach [e] X.env = (false, eval e X.env) :: starEach [] X.env) :
    PS X (.Expr (.Call (.Attribute (.Name x px) "append" apos) [.Call (.Attribute (.Name y py) "pop" apos2) [e] [] cpos2] [] cpos) pos) (tS c fun S => (ownAt S i).bind fun _ => (ownAt S r).bind fun _ => bindF (fe S) fun y S => (intOf y).bind fun n => (ownAt S r).bind fun ds => (popD ds n).bind fun p => (setS r (.own p.2) S).bind fun S => (ownAt S i).bind fun es => if es.length < LIM ∧ i ≠ r then (setS i (.own (es ++ [p.1])) S).map .nx else none) := by
  have pp := pe_popAt (X := X) (pe_var (pos := py) hR hv hd hcd) he (by rfl) hline2 hs
  have hs2 : starEach [Expr.Call (.Attribute (.Name y py) "pop" apos2) [e] [] cpos2] X.env = (false, eval (.Call (.Attribute (.Name y py) "pop" apos2) [e] [] cpos2) X.env) :: starEach [] X.env := rfl
  have hfew : ((backTo cpos (starEach [Expr.Call (.Attribute (.Name y py) "pop" apos2) [e] [] cpos2] X.env)).all (fun x => !x.1) && (backToKw cpos (keywordEach [] X.env)).all (fun x => x.1.isSome)
      && decide ([Expr.Call (.Attribute (.Name y py) "pop" apos2) [e] [] cpos2].length + ([] : List Keyword).length + (if ([] : List Keyword).isEmpty then 0 else 1) < 30)) = true := by
    rw [hs2]
    rfl
  have p := pe_bm (X := X) (name := "append") (apos := apos) (cpos := cpos) PySem.F.plainAttrs_list PySem.F.slot_list_append PySem.F.type_list_append (show MtR X "list.append" rAppend from mt_append) (pe_var (pos := px) hN hvx hdx hcdx) (pa_cons pp pa_nil hs2) (by rfl) hfew hline hs2 (by rfl)
  refine PS.of (ps_expr p (by rfl)) fun Z σ H ⟨F, S, I, f⟩ => ?_
  obtain ⟨es0, e0, f⟩ := FolS.opt f
  obtain ⟨q, xs, h1, h2, h3, h4, h5⟩ := I.own i es0 (own_of e0)
  refine ⟨_, h1, .inl ⟨rfl, xs, SqL.of h2⟩, ?_⟩
  refine pop_read (x := fun _ _ => True) trivial (fun _ _ => none) (k := fun d ds S => (setS r (.own ds) S).bind fun S => (ownAt S i).bind fun es => if es.length < LIM ∧ i ≠ r then (setS i (.own (es ++ [d])) S).map .nx else none) I f fun v d ds0 ds H1 S1 q2 xs2 f1 s1 e1 hq h1' xs' hr rv => ?_
  obtain ⟨S2, e2, f1⟩ := f1.opt
  have qq := setS_of e2
  subst qq
  obtain ⟨es, e3, fl, e4, kz⟩ := f1.opt
  split at e4
  case isFalse => cases e4
  rename_i hl
  obtain ⟨S3, e5, e6⟩ := Option.map_eq_some_iff.mp e4
  cases e6
  have q3 := setS_of e5
  subst q3
  obtain ⟨I2, k2⟩ := ownMut s1.env e1 hq hr
  obtain ⟨q', ys, g1, g2, g3, g4, g5⟩ := I2.own i es (own_of e3)
  rw [h1] at g1
  cases g1
  obtain ⟨I3, k3⟩ := ownMut I2 (own_of e3) h1 (g3.append (.cons (rv.kp k2) .nil))
  exact ⟨q, ys, v, rfl, rfl, g2, by rw [g3.length, lim_eq]; exact hl.1, kz σ _ I3 (k2.trans k3)⟩
end
end Ev

set_option Elab.async false
set_option linter.all false
set_option maxRecDepth 100000
set_option maxHeartbeats 4000000
/-! Ev17: the check of statements; what is checked runs so. -/
namespace Ev
open PySem PySem.Spec PyProof.Rows L2

def notComp : Expr → Bool
  | .ListComp _ _ _ _ => false
  | .SetComp _ _ _ _ => false
  | .DictComp _ _ _ _ _ => false
  | _ => true
theorem swaps_no {v : Expr} {t : Option Expr} {l : Nat} {env : Env} (h : notComp v = true) : swapsWith v t l env = pure false := by
  cases v <;> first | rfl | cases h
def isTupE : Expr → Bool
  | .Tuple _ _ _ => true
  | _ => false
theorem stores_no {tg v : Expr} {env : Env} (h : isTupE v = false) : swappedStores [tg] v env = pure none := by
  cases v <;> first | (cases tg <;> rfl) | cases h
theorem stores_no2 {tg v : Expr} {env : Env} (h : (match tg with
  | .Tuple _ _ _ => false
  | .List _ _ => false
  | _ => true) = true) : swappedStores [tg] v env = pure none := by
  cases tg <;> first | (cases v <;> rfl) | cases h
theorem stores_const {ts vs : List Expr} {k1 k2 : Nat} {p1 p2 : Pos} {env : Env} (h : vs.all (foldedForSure 8) = true) : swappedStores [.Tuple ts k1 p1] (.Tuple vs k2 p2) env = pure none := by
  unfold swappedStores
  dsimp only
  simp only [h, if_true, bind_pure_comp, pure_bind]
  repeat' split
  all_goals rfl
def isStarE : Expr → Bool
  | .Starred .. => true
  | _ => false
/-- which names are stored from the right -/
def swR (ts vs : List Expr) (fnc : Bool) (kind : Str → Option NameKind) : Option (Option (List Str)) :=
  if (!(ts.length == 2 || ts.length == 3) || vs.length != ts.length || !fnc) = true then some none
  else if (vs.any isStarE) = true then some none
  else
    let line := (ts.head?.map (·.pos.line)).getD 0
    let names := ts.filterMap fun
      | .Name id pos => if kind id == some .local && pos.line == line then some id else none
      | _ => none
    if (names.length != ts.length || names.eraseDups.length != names.length) = true then some none
    else if (vs.all (foldedForSure 8)) = true then some none
    else if (vs.all (constantsAlone 8)) = true then none
    else some (some names)
theorem swR_ok {ts vs : List Expr} {k1 k2 : Nat} {p1 p2 : Pos} {env : Env} {r : Option (List Str)} (hk : env.blockKind = .function) (h : swR ts vs true env.kindOf = some r) : swappedStores [.Tuple ts k1 p1] (.Tuple vs k2 p2) env = pure r := by
  unfold swR at h
  unfold swappedStores
  have e1 : (env.blockKind != .function) = false := by rw [hk]; rfl
  dsimp only at h ⊢
  rw [e1]
  simp only [Bool.not_true] at h
  split at h
  · rename_i q
    cases h
    exact if_pos q
  · rename_i q
    refine (if_neg q).trans ?_
    split at h
    · rename_i q
      cases h
      exact if_pos q
    · rename_i q
      refine (if_neg q).trans ?_
      split at h
      · rename_i q
        cases h
        exact if_pos q
      · rename_i q
        refine (if_neg q).trans ?_
        split at h
        · rename_i q
          cases h
          exact if_pos q
        · rename_i q
          refine (if_neg q).trans ?_
          split at h
          · cases h
          · rename_i q
            cases h
            exact if_neg q

def S.isBad : S → Bool
  | .bad => true
  | _ => false
def E.isLst : E → Bool
  | .lst _ => true
  | _ => false
def E.isLc : E → Bool
  | .lc _ _ _ _ _ => true
  | _ => false
def constPair (k : SC) : Expr → Expr → Bool
  | .Tuple ts _ _, .Tuple vs _ _ => decide (swR ts vs true (fun x => k.sc.names.lookup x) = some none)
  | _, _ => false
/-! the shapes -/
def shSet : Stmt → Option (Str × Expr)
  | .Assign [.Name x _] v _ => some (x, v)
  | _ => none
def shAsg : Stmt → Option (Expr × Expr)
  | .Assign [tg] v _ => some (tg, v)
  | _ => none
def shNm : Expr → Option (Str × Pos)
  | .Name x p => some (x, p)
  | _ => none
def shTup : Expr → Option (List Expr)
  | .Tuple xs _ _ => some xs
  | _ => none
def shMeth (m : Str) : Stmt → Option (Str × Expr × Bool)
  | .Expr (.Call (.Attribute (.Name x _) n apos) [v] [] cpos) _ => if n = m then some (x, v, decide ((apos.endLine == cpos.line) = true)) else none
  | _ => none
def shPut : Stmt → Option (Str × Expr × Expr)
  | .Assign [.Subscript (.Name x _) y _] v _ => some (x, y, v)
  | _ => none
def shPP : Stmt → Option (Str × Int × Expr)
  | .Assign [.Subscript (.Name x _) (.Constant (.int m) _ _) _] v _ => some (x, m, v)
  | _ => none
def shIf : Stmt → Option (Expr × List Stmt × List Stmt)
  | .If t xs ys _ => some (t, xs, ys)
  | _ => none
def shFor : Stmt → Option (Expr × Expr × List Stmt)
  | .For tg iter xs [] _ => some (tg, iter, xs)
  | _ => none
def shWhile : Stmt → Option (Expr × List Stmt)
  | .While t xs [] _ => some (t, xs)
  | _ => none
def shRet : Stmt → Option (Option Expr)
  | .Return v _ => some v
  | _ => none
def shExp : Stmt → Option Expr
  | .Expr v _ => some v
  | _ => none
def shK : Stmt → Nat
  | .Pass _ => 1
  | .Break _ => 2
  | .Continue _ => 3
  | _ => 0
/-- x = y.pop(e) -/
def shPop : Stmt → Option (Str × Str × Expr × Bool)
  | .Assign [.Name x _] (.Call (.Attribute (.Name y _) n apos) [e] [] cpos) _ => if n = "pop" then some (x, y, e, decide ((apos.endLine == cpos.line) = true)) else none
  | _ => none
/-- x.append(y.pop(e)) -/
def shAPop : Stmt → Option (Str × Str × Expr × Bool × Bool)
  | .Expr (.Call (.Attribute (.Name x _) m apos) [.Call (.Attribute (.Name y _) n apos2) [e] [] cpos2] [] cpos) _ => if m = "append" ∧ n = "pop" then some (x, y, e, decide ((apos.endLine == cpos.line) = true), decide ((apos2.endLine == cpos2.line) = true)) else none
  | _ => none
section
variable (g : GC)
/-- what makes a new object -/
def chkF : E → SC → Expr → Bool
  | .lst es, k, .List xs _ => chkEs g es k xs
  | .dnw _, _, .Dict ks vs _ => ks.isEmpty && vs.isEmpty
  | .dn1 _ a b, k, .Dict [some x] [y] _ => chkE g a k x && chkE g b k y
  | .bi .list (.cons false e .nil), k, .Call (.Name f _) [x] [] _ => decide (f = "list") && k.glob f && notStar x && chkE g e k x
  | .bin .mul a b, k, .BinOp x .Mult y _ => chkE g a k x && chkE g b k y
  | .lc elt t it c own, k, .ListComp x [⟨tg, iter, ifs, 0⟩] scope _ => blkC k.N k.sc scope (k.own own) && t.slots.all (fun i => decide (i ∈ own)) && notSet iter && chkT (k.blk scope) t tg && chkI g it k iter tg && chkC g c (k.blk scope) ifs && chkE g elt (k.blk scope) x
  | _, _, _ => false
def ck1 (b : Bool) (e : E) (k : SC) (x : Expr) : Bool := if b then chkF g e k x else chkE g e k x
/-- the small statements, by what stands in them -/
def ckSet (fr : Bool) (i : Nat) (e : E) (k : SC) (p : Str × Expr) : Bool := decide (k.N[i]? = some p.1) && k.tgt p.1 && (if fr && !e.isLc then notComp p.2 && chkF g e k p.2 else (e.isLc || notComp p.2) && chkE g e k p.2)
def ckAsg (t : T) (e : E) (k : SC) (p : Expr × Expr) : Bool := chkT k t p.1 && notComp p.2 && notStar p.1 && (!isTupE p.2 || constPair k p.1 p.2) && chkE g e k p.2
def ckPar2 (f1 f2 : Bool) (i j : Nat) (a b : E) (k : SC) (p : Expr × Expr) : Bool := match shTup p.1, shTup p.2 with
  | some [t1, t2], some [u, v] => (match shNm t1, shNm t2 with
    | some (x, _), some (y, _) => decide (k.N[i]? = some x) && decide (k.N[j]? = some y) && decide (i ≠ j) && decide (k.sc.names.lookup x = some .local) && decide (k.sc.names.lookup y = some .local) &&
      decide (swR [t1, t2] [u, v] true (fun x => k.sc.names.lookup x) = some (some [x, y])) && notStar u && notStar v && ck1 g f1 a k u && ck1 g f2 b k v
    | _, _ => false)
  | _, _ => false
def ckPar3 (f1 f2 f3 : Bool) (i j l : Nat) (a b c : E) (k : SC) (p : Expr × Expr) : Bool := match shTup p.1, shTup p.2 with
  | some [t1, t2, t3], some [u, v, w] => (match shNm t1, shNm t2, shNm t3 with
    | some (x, _), some (y, _), some (z, _) => decide (k.N[i]? = some x) && decide (k.N[j]? = some y) && decide (k.N[l]? = some z) && decide (i ≠ j) && decide (i ≠ l) && decide (j ≠ l) &&
      decide (k.sc.names.lookup x = some .local) && decide (k.sc.names.lookup y = some .local) && decide (k.sc.names.lookup z = some .local) &&
      decide (swR [t1, t2, t3] [u, v, w] true (fun x => k.sc.names.lookup x) = some (some [x, y, z])) && notStar u && notStar v && notStar w && ck1 g f1 a k u && ck1 g f2 b k v && ck1 g f3 c k w
    | _, _, _ => false)
  | _, _ => false
def ckPut (i : Nat) (ix e : E) (k : SC) (p : Str × Expr × Expr) : Bool := decide (k.N[i]? = some p.1) && k.vis p.1 && notComp p.2.2 && notSlice p.2.1 && chkE g ix k p.2.1 && chkE g e k p.2.2
def ckMeth (i : Nat) (e : E) (k : SC) (p : Str × Expr × Bool) : Bool := decide (k.N[i]? = some p.1) && k.vis p.1 && p.2.2 && notStar p.2.1 && chkE g e k p.2.1
mutual
def chkS : S → SC → Stmt → Bool
  | .set fr i e, k, st => (shSet st).any (ckSet g fr i e k)
  | .asg t e, k, st => (shAsg st).any (ckAsg g t e k)
  | .par2 f1 f2 i j a b, k, st => (shAsg st).any (ckPar2 g f1 f2 i j a b k)
  | .par3 f1 f2 f3 i j l a b c, k, st => (shAsg st).any (ckPar3 g f1 f2 f3 i j l a b c k)
  | .put i ix e, k, st => (shPut st).any (ckPut g i ix e k)
  | .pput i m e, k, st => (shPP st).any fun p => decide (k.N[i]? = some p.1) && k.vis p.1 && decide (m = p.2.1) && notComp p.2.2 && chkE g e k p.2.2
  | .app i e, k, st => (shMeth "append" st).any (ckMeth g i e k)
  | .ext i e, k, st => (shMeth "extend" st).any (ckMeth g i e k)
  | .ife c a b, k, st => (shIf st).any fun p => chkE g c k p.1 && chkSs a k p.2.1 && chkSs b k p.2.2
  | .forr t it b, k, st => (shFor st).any fun p => chkT k t p.1 && notSet p.2.1 && chkI g it k p.2.1 p.1 && chkSs b k p.2.2
  | .whil c b, k, st => (shWhile st).any fun p => chkE g c k p.1 && chkSs b k p.2
  | .ret e, k, st => (shRet st).any fun p => p.any (chkE g e k)
  | .retN, _, st => (shRet st).any fun p => p.isNone
  | .exp e, k, st => (shExp st).any fun p => notComp p && chkE g e k p
  | .pass, _, st => shK st == 1
  | .brk, _, st => shK st == 2
  | .cont, _, st => shK st == 3
  | .dput i ix e, k, st => (shPut st).any fun p => decide (k.N[i]? = some p.1) && k.vis p.1 && notComp p.2.2 && chkE g ix k p.2.1 && chkE g e k p.2.2
  | .dupd i e, k, st => (shMeth "update" st).any (ckMeth g i e k)
  | .setPop i r e, k, st => (shPop st).any fun p => decide (k.N[i]? = some p.1) && k.tgt p.1 && decide (k.N[r]? = some p.2.1) && k.vis p.2.1 && p.2.2.2 && notStar p.2.2.1 && chkE g e k p.2.2.1
  | .appPop i r e, k, st => (shAPop st).any fun p => decide (k.N[i]? = some p.1) && k.vis p.1 && decide (k.N[r]? = some p.2.1) && k.vis p.2.1 && p.2.2.2.1 && p.2.2.2.2 && notStar p.2.2.1 && chkE g e k p.2.2.1
  | .bad, _, _ => true
def chkSs : Ss → SC → List Stmt → Bool
  | .nil, _, xs => xs.isEmpty
  | .cons s r, k, xs => match xs with
    | [] => false
    | x :: xs => chkS s k x && chkSs r k xs
end
end
/-! the shapes, back -/
theorem any_some {α : Type} {o : Option α} {f : α → Bool} (h : o.any f = true) : ∃ a, o = some a ∧ f a = true := by
  cases o with
  | none => cases h
  | some a => exact ⟨a, rfl, h⟩
theorem shNm_of {e : Expr} {x : Str} {p : Pos} (h : shNm e = some (x, p)) : e = .Name x p := by
  cases e <;> first | (cases h; rfl) | cases h
theorem shTup_of {e : Expr} {xs : List Expr} (h : shTup e = some xs) : ∃ k p, e = .Tuple xs k p := by
  cases e <;> first | (cases h; exact ⟨_, _, rfl⟩) | cases h
theorem shAsg_of {st : Stmt} {p : Expr × Expr} (h : shAsg st = some p) : ∃ pos, st = .Assign [p.1] p.2 pos := by
  unfold shAsg at h
  split at h
  · cases h; exact ⟨_, rfl⟩
  · cases h
theorem shSet_of {st : Stmt} {p : Str × Expr} (h : shSet st = some p) : ∃ px pos, st = .Assign [.Name p.1 px] p.2 pos := by
  unfold shSet at h
  split at h
  · cases h; exact ⟨_, _, rfl⟩
  · cases h
theorem shPut_of {st : Stmt} {p : Str × Expr × Expr} (h : shPut st = some p) : ∃ px py pos, st = .Assign [.Subscript (.Name p.1 px) p.2.1 py] p.2.2 pos := by
  unfold shPut at h
  split at h
  · cases h; exact ⟨_, _, _, rfl⟩
  · cases h
theorem shPP_of {st : Stmt} {p : Str × Int × Expr} (h : shPP st = some p) : ∃ px p2 p3 py pos, st = .Assign [.Subscript (.Name p.1 px) (.Constant (.int p.2.1) p2 p3) py] p.2.2 pos := by
  unfold shPP at h
  split at h
  · cases h; exact ⟨_, _, _, _, _, rfl⟩
  · cases h
theorem shMeth_of {m : Str} {st : Stmt} {p : Str × Expr × Bool} (h : shMeth m st = some p) : ∃ px apos cpos pos, st = .Expr (.Call (.Attribute (.Name p.1 px) m apos) [p.2.1] [] cpos) pos ∧ p.2.2 = decide ((apos.endLine == cpos.line) = true) := by
  unfold shMeth at h
  split at h
  · split at h
    · rename_i e
      cases h
      subst e
      exact ⟨_, _, _, _, rfl, rfl⟩
    · cases h
  · cases h
theorem shPop_of {st : Stmt} {p : Str × Str × Expr × Bool} (h : shPop st = some p) : ∃ px py apos cpos pos, st = .Assign [.Name p.1 px] (.Call (.Attribute (.Name p.2.1 py) "pop" apos) [p.2.2.1] [] cpos) pos ∧ p.2.2.2 = decide ((apos.endLine == cpos.line) = true) := by
  unfold shPop at h
  split at h
  · split at h
    · rename_i e
      cases h
      subst e
      exact ⟨_, _, _, _, _, rfl, rfl⟩
    · cases h
  · cases h
theorem shAPop_of {st : Stmt} {p : Str × Str × Expr × Bool × Bool} (h : shAPop st = some p) : ∃ px py apos cpos apos2 cpos2 pos, st = .Expr (.Call (.Attribute (.Name p.1 px) "append" apos) [.Call (.Attribute (.Name p.2.1 py) "pop" apos2) [p.2.2.1] [] cpos2] [] cpos) pos ∧ p.2.2.2.1 = decide ((apos.endLine == cpos.line) = true) ∧ p.2.2.2.2 = decide ((apos2.endLine == cpos2.line) = true) := by
  unfold shAPop at h
  split at h
  · split at h
    · rename_i e
      cases h
      obtain ⟨e1, e2⟩ := e
      subst e1 e2
      exact ⟨_, _, _, _, _, _, _, rfl, rfl, rfl⟩
    · cases h
  · cases h
theorem shIf_of {st : Stmt} {p : Expr × List Stmt × List Stmt} (h : shIf st = some p) : ∃ pos, st = .If p.1 p.2.1 p.2.2 pos := by
  cases st <;> first | (cases h; exact ⟨_, rfl⟩) | cases h
theorem shFor_of {st : Stmt} {p : Expr × Expr × List Stmt} (h : shFor st = some p) : ∃ pos, st = .For p.1 p.2.1 p.2.2 [] pos := by
  unfold shFor at h
  split at h
  · cases h; exact ⟨_, rfl⟩
  · cases h
theorem shWhile_of {st : Stmt} {p : Expr × List Stmt} (h : shWhile st = some p) : ∃ pos, st = .While p.1 p.2 [] pos := by
  unfold shWhile at h
  split at h
  · cases h; exact ⟨_, rfl⟩
  · cases h
theorem shRet_of {st : Stmt} {p : Option Expr} (h : shRet st = some p) : ∃ pos, st = .Return p pos := by
  cases st <;> first | (cases h; exact ⟨_, rfl⟩) | cases h
theorem shExp_of {st : Stmt} {p : Expr} (h : shExp st = some p) : ∃ pos, st = .Expr p pos := by
  cases st <;> first | (cases h; exact ⟨_, rfl⟩) | cases h
end Ev

set_option Elab.async false
set_option linter.all false
set_option maxRecDepth 100000
set_option maxHeartbeats 4000000
/-! Ev18: what is checked runs so. -/
namespace Ev
open PySem PySem.Spec PyProof.Rows L2
theorem sole_no {tg v : Expr} {l : Nat} {env : Env} (h : notComp v = true) : swapsWithSole [tg] v l env = pure false := by
  show swapsWith v (some tg) l env = pure false
  exact swaps_no h
theorem sub_assign {x : Str} {y : Expr} {p1 p2 : Pos} {env : Env} (h : notSlice y = true) : ∀ v, assign (.Subscript (.Name x p1) y p2) env v = (do
      let ov ← holding [v] (eval (.Name x p1) env)
      let iv ← holding [v, ov] (eval y env)
      standAt p2
      holding [v, ov, iv] (setItem ov iv v)
      release [v, ov, iv] []) := by
  intro v
  cases y <;> first | rfl | cases h
structure SOk (c : Ct) (Φ : Str → Option Fn) (g : GC) (X : Cx) (k : SC) : Prop extends XOk c Φ g X k where
  own : PassesOwn (model X.prog X.w) X.A X.env X.xe
  bk : X.env.blockKind = .function
  h0 : ∀ a, c.H0 a = none → X.H_0 a = none
section
variable {c : Ct} {Φ : Str → Option Fn} {n : Nat} {g : GC} {X : Cx} {k : SC}
theorem put_ok {x : Str} {i : Nat} {y v : Expr} {p1 p2 pos : Pos} {fe fx : St' → Option (Res × St')} (hN : X.N[i]? = some x) (hv : Vis X.env.scope x) (hd : (x == ("__debug__" : Str)) = false) (hcd : (x == ("__classdict__" : Str)) = false) (he : PE X v (tE c true false fe)) (hx : PE X y (tE c true true fx)) (hn : notComp v = true) (hy : notSlice y = true) :
    PS X (.Assign [.Subscript (.Name x p1) y p2] v pos) (tS c fun S => bindF (fe S) fun d S => (ownAt S i).bind fun _ => bindF (fx S) fun k S => (intOf k).bind fun k => (ownAt S i).bind fun ds =>
      (ixN ds.length k).bind fun j => (setS i (.own (ds.set j d)) S).map .nx) :=
  PS.of (ps_asg he (pg_sub (pos := p2) (pe_var (pos := p1) hN hv hd hcd) hx set_list (sub_assign hy)) (sole_no hn) (stores_no2 rfl) rfl) fun Z σ H ⟨F, S, I, f⟩ => by
    refine ⟨F, S, I, (FolS.bind (b := false) f).mono fun w H1 ⟨d, S1, s1, r1, f1⟩ => ?_⟩
    obtain ⟨ds0, e0, f1⟩ := f1.opt
    obtain ⟨q, xs, h1, h2, h3, h4, h5⟩ := s1.env.own i ds0 (own_of e0)
    refine ⟨_, h1, F, S1, s1.env, (FolS.bind (b := true) f1).mono fun u H2 ⟨d2, S2, s2, r2, f2⟩ => ?_⟩
    obtain ⟨n, e1, f2⟩ := f2.opt
    obtain ⟨ds, e2, f2⟩ := f2.opt
    obtain ⟨j, e3, fl, e4, k⟩ := f2.opt
    obtain ⟨S3, e5, e6⟩ := Option.map_eq_some_iff.mp e4
    cases e6
    have eS := setS_of e5
    subst eS
    cases d2 with
    | int m =>
      cases e1
      have hu := r2.b.int
      subst hu
      obtain ⟨q', ys, g1, g2, g3, g4, g5⟩ := s2.env.own i ds (own_of e2)
      rw [h1] at g1
      cases g1
      obtain ⟨I2, k2⟩ := ownMut s2.env (own_of e2) h1 (g3.set j (r1.mv s2).rep)
      exact ⟨q, ys, _, j, rfl, rfl, g2, by rw [g3.length]; exact e3, k σ _ I2 k2⟩
    | _ => cases e1
theorem lcSet_ok {elt tg iter : Expr} {ifs : List Expr} {scope : Scope} {own : List (Str × Nat)} {t : T} {fi : St' → Option (List D × St')} {fcn : St' → Option (Bool × Pt)} {fe : St' → Option (Res × St')} {fz : Bool} {pos py spos : Pos} {y : Str} {i : Nat} (hc : X.calm = true) (hN : X.N.Nodup)
    (hi : PI X tg iter (tI c fz true fi)) (ok : BlkOk X.N X.env.scope scope own)
    (hg : ∀ (s : Shared) (H : Hp) (C : Addr) (cl : List (Str × Addr)) (fp : List Addr), PG (X.blk s H scope (compEnvC scope cl C X.env) fp) tg (tG c.nox t)) (ht : ∀ (s : Shared) (H : Hp) (C : Addr) (cl : List (Str × Addr)) (fp : List Addr), PTs (X.blk s H scope (compEnvC scope cl C X.env) fp) ifs (tCn c.nox fcn))
    (he : ∀ (s : Shared) (H : Hp) (C : Addr) (cl : List (Str × Addr)) (fp : List Addr), PE (X.blk s H scope (compEnvC scope cl C X.env) fp) elt (tE c.nox false false fe)) (hs : ∀ x, foldedSetIterable iter X.env x = pure x)
    (hy : X.N[i]? = some y) (hl : L2.Loc X.env.scope y) (hf : X.fn y = true ∨ X.env.scope.names.lookup y = some .local) :
    PS X (.Assign [.Name y py] (.ListComp elt [⟨tg, iter, ifs, 0⟩] scope pos) spos) (tAsg (tLc (tI c fz true fi) (tG c.nox t) (tCn c.nox fcn) (tE c.nox false false fe) (own.map (·.2))) (gName i)) := by
  have hsw : swapsWith (.ListComp elt [⟨tg, iter, ifs, 0⟩] scope pos) (some (.Name y py)) spos.line X.env = pure (X.env.blockKind == .function && X.env.kindOf y == some .local && py.line == pos.line && !(scope.names.any fun (n, k) => n == y && (k == .local || k == .cell))) := rfl
  cases hb : (X.env.blockKind == .function && X.env.kindOf y == some .local && py.line == pos.line && !(scope.names.any fun (n, k) => n == y && (k == .local || k == .cell))) with
  | false =>
    rw [hb] at hsw
    exact ps_set hN hy hl (pe_lc hc hN hi ok hg ht he hs) hsw hf
  | true =>
    have q := hb
    rw [hb] at hsw
    simp only [Bool.and_eq_true] at q
    exact ps_setLc hc hN hy (eq_of_beq q.1.1.2) hsw hi ok hg ht he hs
def SsOk (Φ : Str → Option Fn) (n : Nat) (g : GC) (ss : Ss) : Prop := ∀ (c : Ct) (X : Cx) (k : SC) (xs : List Stmt), SOk c Φ g X k → chkSs g ss k xs = true → PSs X xs (tS c (exSs Φ n ss))
def SOk1 (Φ : Str → Option Fn) (n : Nat) (g : GC) (s : S) : Prop := ∀ (c : Ct) (X : Cx) (k : SC) (x : Stmt), SOk c Φ g X k → chkS g s k x = true → PS X x (tS c (exS Φ n s))
theorem chkF_ok {e : E} {x : Expr} (ok : XOk c Φ g X k) (h : chkF g e k x = true) : PE X x (tF c (ev Φ e false true)) := by
  unfold chkF at h
  split at h
  · exact lstF_ok ((Es.ok _).arg ok h false true)
  · rename_i ks vs p
    rw [Bool.and_eq_true] at h
    have e1 : ks = [] := by simpa using h.1
    have e2 : vs = [] := by simpa using h.2
    subst e1 e2
    exact dnwF_ok _
  · rw [Bool.and_eq_true] at h
    exact dn1F_ok ok.hu _ ((E.ok _ _ _ _ _ ok h.1).1 false true) ((E.ok _ _ _ _ _ ok h.2).1 false true)
  · rename_i e f p x pos
    simp only [Bool.and_eq_true] at h
    have e1 := of_decide_eq_true h.1.1.1
    subst e1
    exact listF_ok (ok.gl h.1.1.2).1 (ok.blt _ (by decide)) ((Es.ok (.cons false e .nil)).arg ok (by simp only [chkEs, Bool.and_eq_true]; exact ⟨⟨h.1.2, h.2⟩, trivial⟩) true true) (starEach_cons h.1.2)
  · rw [Bool.and_eq_true] at h
    exact mulF_ok ((E.ok _ _ _ _ _ ok h.1).1 true true) ((E.ok _ _ _ _ _ ok h.2).1 true true)
  · rename_i elt t it cnd own x tg iter ifs scope p
    simp only [Bool.and_eq_true] at h
    obtain ⟨⟨⟨⟨⟨⟨h1, h2⟩, h3⟩, h4⟩, h5⟩, h6⟩, h7⟩ := h
    have hb : BlkOk X.N X.env.scope scope (k.own own) := blkOk_by (by rw [ok.N, ok.sc]; exact h1)
    have hsl : ∀ i ∈ t.slots, i ∈ own := fun i hi => of_decide_eq_true (List.all_eq_true.mp h2 i hi)
    have q := pe_lc (pos := p) ok.calm ok.nd (Itr.ok it _ _ _ _ _ ok h5 true true) hb (fun s H C cl fp => T.ok (ok.blk s H scope C cl fp) t h4) (fun s H C cl fp => (Eo.ok cnd).cond (ok.blk s H scope C cl fp) h6)
      (fun s H C cl fp => (E.ok elt _ _ _ _ (ok.blk s H scope C cl fp) h7).1 false false) (notSet_ok h3)
    rw [own_map] at q
    exact PE.of q fun σ H Q z => lcF_read hsl z
  · cases h
theorem ck1_ok {b : Bool} {e : E} {x : Expr} (ok : XOk c Φ g X k) (h : ck1 g b e k x = true) : PE X x (tX1 c b (ev Φ e false true)) := by
  unfold ck1 at h
  cases b with
  | false => exact (E.ok e _ _ _ _ ok h).1 false true
  | true => exact chkF_ok ok h
theorem set_ok {fr : Bool} {i : Nat} {e : E} : SOk1 Φ n g (.set fr i e) := fun c X k st ok h0 => by
  obtain ⟨⟨x, v⟩, e0, h⟩ := any_some (show (shSet st).any (ckSet g fr i e k) = true from h0)
  obtain ⟨px, pos, rfl⟩ := shSet_of e0
  unfold ckSet at h
  rw [Bool.and_eq_true, Bool.and_eq_true] at h
  obtain ⟨⟨h1, h2⟩, h3⟩ := h
  obtain ⟨q1, q2⟩ := ok.tg h2
  have hN : X.N[i]? = some x := by rw [ok.N]; exact of_decide_eq_true h1
  cases hlc : e.isLc with
  | false =>
    rw [hlc] at h3
    cases fr with
    | false =>
      rw [Bool.false_and, if_neg (by decide), Bool.false_or, Bool.and_eq_true] at h3
      exact PS.of (ps_set ok.nd hN q1 ((E.ok e c X k v ok.toXOk h3.2).1 false true) (swaps_no h3.1) q2) fun Z σ H q => setN_read q
    | true =>
      rw [Bool.true_and, if_pos (by rfl), Bool.and_eq_true] at h3
      exact PS.of (ps_set ok.nd hN q1 (chkF_ok ok.toXOk h3.2) (swaps_no h3.1) q2) fun Z σ H q => setF_read (b := true) q
  | true =>
    have h5 : chkE g e k v = true := by
      rw [hlc, Bool.not_true, Bool.and_false, if_neg (by decide), Bool.true_or, Bool.true_and] at h3
      exact h3
    cases e with
    | lc elt t it cnd own =>
      match v, h5 with
      | .ListComp x2 [⟨tg, iter, ifs, 0⟩] scope p, h =>
        simp only [chkE, Bool.and_eq_true] at h
        obtain ⟨⟨⟨⟨⟨⟨h1, h2⟩, h3⟩, h4⟩, h5⟩, h6⟩, h7⟩ := h
        have hb : BlkOk X.N X.env.scope scope (k.own own) := blkOk_by (by rw [ok.N, ok.sc]; exact h1)
        have hsl : ∀ i ∈ t.slots, i ∈ own := fun i hi => of_decide_eq_true (List.all_eq_true.mp h2 i hi)
        have q := lcSet_ok (c := c) (fz := true) (pos := p) (py := px) (spos := pos) ok.calm ok.nd (Itr.ok it _ _ _ _ _ ok.toXOk h5 true true) hb (fun s H C cl fp => T.ok (ok.toXOk.blk s H scope C cl fp) t h4) (fun s H C cl fp => (Eo.ok cnd).cond (ok.toXOk.blk s H scope C cl fp) h6)
          (fun s H C cl fp => (E.ok elt _ _ _ _ (ok.toXOk.blk s H scope C cl fp) h7).1 false false) (notSet_ok h3) hN q1 q2
        rw [own_map] at q
        cases fr with
        | false =>
          refine PS.of q fun Z σ H z => ?_
          obtain ⟨F, S, I, f⟩ := setN_read z
          exact lc_read hsl ⟨F, S, I, f⟩
        | true =>
          refine PS.of q fun Z σ H z => ?_
          exact lcF_read hsl (setF_read (b := true) z)
    | _ => cases hlc
theorem asgS_ok {t : T} {e : E} : SOk1 Φ n g (.asg t e) := fun c X k st ok h0 => by
  obtain ⟨⟨tg, v⟩, e0, h⟩ := any_some (show (shAsg st).any (ckAsg g t e k) = true from h0)
  obtain ⟨pos, rfl⟩ := shAsg_of e0
  unfold ckAsg at h
  simp only [Bool.and_eq_true] at h
  obtain ⟨⟨⟨⟨h1, h2⟩, h3⟩, h4⟩, h5⟩ := h
  have hw : swappedStores [tg] v X.env = pure none := by
    cases hv : isTupE v with
    | false => exact stores_no hv
    | true =>
      rw [hv] at h4
      cases tg with
      | Tuple ts k1 p1 =>
        cases v with
        | Tuple vs k2 p2 =>
          refine swR_ok ok.bk ?_
          have q : swR ts vs true (fun x => k.sc.names.lookup x) = some none := of_decide_eq_true h4
          show swR ts vs true (fun x => X.env.scope.names.lookup x) = some none
          rw [ok.sc]
          exact q
        | _ => cases hv
      | _ => cases v <;> cases h4
  exact asg_ok ((E.ok e _ _ _ _ ok.toXOk h5).1 false true) (T.ok ok.toXOk t h1) (sole_no h2) hw (by rw [assign_cons h3]; rfl)
theorem par2S_ok {f1 f2 : Bool} {i j : Nat} {a b : E} : SOk1 Φ n g (.par2 f1 f2 i j a b) := fun c X k st ok h0 => by
  obtain ⟨⟨tg, v⟩, e0, h⟩ := any_some (show (shAsg st).any (ckPar2 g f1 f2 i j a b k) = true from h0)
  obtain ⟨pos, rfl⟩ := shAsg_of e0
  unfold ckPar2 at h
  split at h
  case h_2 => cases h
  rename_i t1 t2 u v' e1 e2
  obtain ⟨k1, p1, ea⟩ := shTup_of (show shTup tg = _ from e1)
  obtain ⟨k2, p2, eb⟩ := shTup_of (show shTup v = _ from e2)
  clear e1 e2
  subst ea
  subst eb
  split at h
  case h_2 => cases h
  rename_i x px y py e1 e2
  have e1 := shNm_of e1
  have e2 := shNm_of e2
  subst e1 e2
  simp only [Bool.and_eq_true] at h
  obtain ⟨⟨⟨⟨⟨⟨⟨⟨⟨h1, h2⟩, h3⟩, h4⟩, h5⟩, h6⟩, h7⟩, h8⟩, h11⟩, h12⟩ := h
  · have hw : swappedStores [.Tuple [.Name x px, .Name y py] k1 p1] (.Tuple [u, v'] k2 p2) X.env = pure (some [x, y]) := by
      refine swR_ok ok.bk ?_
      show swR _ _ true (fun x => X.env.scope.names.lookup x) = _
      rw [ok.sc]
      exact of_decide_eq_true h6
    refine PS.of (ps_par (ta := tCons (tX1 c f1 (ev Φ a false true)) (tCons (tX1 c f2 (ev Φ b false true)) tNil)) ok.calm ok.nd (by rw [ok.N]; exact of_decide_eq_true h1) (by rw [ok.N]; exact of_decide_eq_true h2) (of_decide_eq_true h3) (by rw [ok.sc]; exact of_decide_eq_true h4) (by rw [ok.sc]; exact of_decide_eq_true h5)
      (pa_cons (ck1_ok ok.toXOk h11) (pa_cons (ck1_ok ok.toXOk h12) pa_nil (starEach_cons h8)) (starEach_cons h7)) hw rfl) fun Z σ H q => par2_read q
theorem par3S_ok {f1 f2 f3 : Bool} {i j l : Nat} {a b d : E} : SOk1 Φ n g (.par3 f1 f2 f3 i j l a b d) := fun c X k st ok h0 => by
  obtain ⟨⟨tg, v⟩, e0, h⟩ := any_some (show (shAsg st).any (ckPar3 g f1 f2 f3 i j l a b d k) = true from h0)
  obtain ⟨pos, rfl⟩ := shAsg_of e0
  unfold ckPar3 at h
  split at h
  case h_2 => cases h
  rename_i t1 t2 t3 u v' w e1 e2
  obtain ⟨k1, p1, ea⟩ := shTup_of (show shTup tg = _ from e1)
  obtain ⟨k2, p2, eb⟩ := shTup_of (show shTup v = _ from e2)
  clear e1 e2
  subst ea
  subst eb
  split at h
  case h_2 => cases h
  rename_i x px y py z pz e1 e2 e3
  have e1 := shNm_of e1
  have e2 := shNm_of e2
  have e3 := shNm_of e3
  subst e1 e2 e3
  simp only [Bool.and_eq_true] at h
  obtain ⟨⟨⟨⟨⟨⟨⟨⟨⟨⟨⟨⟨⟨⟨⟨h1, h2⟩, h3⟩, h4⟩, h5⟩, h6⟩, h7⟩, h8⟩, h9⟩, h10⟩, h11⟩, h12⟩, h13⟩, h17⟩, h18⟩, h19⟩ := h
  · · · have hw : swappedStores [.Tuple [.Name x px, .Name y py, .Name z pz] k1 p1] (.Tuple [u, v', w] k2 p2) X.env = pure (some [x, y, z]) := by
          refine swR_ok ok.bk ?_
          show swR _ _ true (fun x => X.env.scope.names.lookup x) = _
          rw [ok.sc]
          exact of_decide_eq_true h10
        refine PS.of (ps_par3 (ta := tCons (tX1 c f1 (ev Φ a false true)) (tCons (tX1 c f2 (ev Φ b false true)) (tCons (tX1 c f3 (ev Φ d false true)) tNil))) ok.calm ok.nd (by rw [ok.N]; exact of_decide_eq_true h1) (by rw [ok.N]; exact of_decide_eq_true h2) (by rw [ok.N]; exact of_decide_eq_true h3) (of_decide_eq_true h4) (of_decide_eq_true h5) (of_decide_eq_true h6) (by rw [ok.sc]; exact of_decide_eq_true h7) (by rw [ok.sc]; exact of_decide_eq_true h8) (by rw [ok.sc]; exact of_decide_eq_true h9)
          (pa_cons (ck1_ok ok.toXOk h17) (pa_cons (ck1_ok ok.toXOk h18) (pa_cons (ck1_ok ok.toXOk h19) pa_nil (starEach_cons h13)) (starEach_cons h12)) (starEach_cons h11)) hw rfl) fun Z σ H q => par3_read q
theorem putS_ok {i : Nat} {ix e : E} : SOk1 Φ n g (.put i ix e) := fun c X k st ok h0 => by
  obtain ⟨⟨x, y, v⟩, e0, h⟩ := any_some (show (shPut st).any (ckPut g i ix e k) = true from h0)
  obtain ⟨px, py, pos, rfl⟩ := shPut_of e0
  unfold ckPut at h
  simp only [Bool.and_eq_true] at h
  obtain ⟨⟨⟨⟨⟨h1, h2⟩, h3⟩, h6⟩, h4⟩, h5⟩ := h
  obtain ⟨q1, q2, q3⟩ := ok.vs h2
  exact put_ok (by rw [ok.N]; exact of_decide_eq_true h1) q1 q2 q3 ((E.ok e _ _ _ _ ok.toXOk h5).1 false true) ((E.ok ix _ _ _ _ ok.toXOk h4).1 true true) h3 h6
theorem dputS_ok {i : Nat} {ix e : E} : SOk1 Φ n g (.dput i ix e) := fun c X k st ok h0 => by
  obtain ⟨⟨x, y, v⟩, e0, h⟩ := any_some (show (shPut st).any (fun p => decide (k.N[i]? = some p.1) && k.vis p.1 && notComp p.2.2 && chkE g ix k p.2.1 && chkE g e k p.2.2) = true from h0)
  obtain ⟨px, py, pos, rfl⟩ := shPut_of e0
  simp only [Bool.and_eq_true] at h
  obtain ⟨⟨⟨⟨h1, h2⟩, h3⟩, h4⟩, h5⟩ := h
  obtain ⟨q1, q2, q3⟩ := ok.vs h2
  exact dput_ok ok.h0 ok.hu (by rw [ok.N]; exact of_decide_eq_true h1) q1 q2 q3 ((E.ok e _ _ _ _ ok.toXOk h5).1 false true) ((E.ok ix _ _ _ _ ok.toXOk h4).1 false true) (swaps_no h3)
theorem dupdS_ok {i : Nat} {e : E} : SOk1 Φ n g (.dupd i e) := fun c X k st ok h0 => by
  obtain ⟨⟨x, v, bl⟩, e0, h⟩ := any_some (show (shMeth "update" st).any (ckMeth g i e k) = true from h0)
  obtain ⟨px, apos, cpos, pos, rfl, eb⟩ := shMeth_of e0
  unfold ckMeth at h
  simp only [Bool.and_eq_true] at h
  obtain ⟨⟨⟨⟨h1, h2⟩, h4⟩, h5⟩, h6⟩ := h
  obtain ⟨q1, q2, q3⟩ := ok.vs h2
  exact dupd_ok ok.h0 (by rw [ok.N]; exact of_decide_eq_true h1) q1 q2 q3 ((E.ok e _ _ _ _ ok.toXOk h6).1 false true) (of_decide_eq_true (eb.symm.trans h4)) (starEach_cons h5)
theorem setPopS_ok {i r : Nat} {e : E} : SOk1 Φ n g (.setPop i r e) := fun c X k st ok h0 => by
  obtain ⟨⟨x, y, v, bl⟩, e0, h⟩ := any_some (show (shPop st).any (fun p => decide (k.N[i]? = some p.1) && k.tgt p.1 && decide (k.N[r]? = some p.2.1) && k.vis p.2.1 && p.2.2.2 && notStar p.2.2.1 && chkE g e k p.2.2.1) = true from h0)
  obtain ⟨px, py, apos, cpos, pos, rfl, eb⟩ := shPop_of e0
  simp only [Bool.and_eq_true] at h
  obtain ⟨⟨⟨⟨⟨⟨h1, h2⟩, h3⟩, h4⟩, h5⟩, h6⟩, h7⟩ := h
  obtain ⟨q1, q2⟩ := ok.tg h2
  obtain ⟨w1, w2, w3⟩ := ok.vs h4
  exact setPop_ok ok.nd (by rw [ok.N]; exact of_decide_eq_true h1) q1 q2 (by rw [ok.N]; exact of_decide_eq_true h3) w1 w2 w3 ((E.ok e _ _ _ _ ok.toXOk h7).1 true true) (of_decide_eq_true (eb.symm.trans h5)) (starEach_cons h6)
theorem appPopS_ok {i r : Nat} {e : E} : SOk1 Φ n g (.appPop i r e) := fun c X k st ok h0 => by
  obtain ⟨⟨x, y, v, bl, bl2⟩, e0, h⟩ := any_some (show (shAPop st).any (fun p => decide (k.N[i]? = some p.1) && k.vis p.1 && decide (k.N[r]? = some p.2.1) && k.vis p.2.1 && p.2.2.2.1 && p.2.2.2.2 && notStar p.2.2.1 && chkE g e k p.2.2.1) = true from h0)
  obtain ⟨px, py, apos, cpos, apos2, cpos2, pos, rfl, eb, eb2⟩ := shAPop_of e0
  simp only [Bool.and_eq_true] at h
  obtain ⟨⟨⟨⟨⟨⟨⟨h1, h2⟩, h3⟩, h4⟩, h5⟩, h6⟩, h7⟩, h8⟩ := h
  obtain ⟨q1, q2, q3⟩ := ok.vs h2
  obtain ⟨w1, w2, w3⟩ := ok.vs h4
  exact appPop_ok (by rw [ok.N]; exact of_decide_eq_true h1) q1 q2 q3 (by rw [ok.N]; exact of_decide_eq_true h3) w1 w2 w3 ((E.ok e _ _ _ _ ok.toXOk h8).1 true true) (of_decide_eq_true (eb.symm.trans h5)) (of_decide_eq_true (eb2.symm.trans h6)) (starEach_cons h7)
theorem potMut {F : AP} {σ : L2.St} {H : Hp} {S : St'} {q : Addr} {P : Pt} (I : EnvR c F σ H S) (hq : c.pa = some q) : EnvR c F σ (upd H q (.lst [.int P.a, .int P.b, .int P.c])) ⟨S.env, P⟩ ∧ Keep (Bad F σ S.env) (Bad F σ S.env) H (upd H q (.lst [.int P.a, .int P.b, .int P.c])) := by
  have st : StepE c.pa H (upd H q (.lst [.int P.a, .int P.b, .int P.c])) := by
    refine ⟨fun a o h n => ?_, fun a h => ?_⟩
    · rw [upd_ne (show a ≠ q from fun e => n (by rw [hq, e]))]
      exact h
    · by_cases z : a = q
      · rw [z, upd_same]
        exact fun z => nomatch z
      · rw [upd_ne z]
        exact h
  refine ⟨I.step st fun r e => ⟨(I.pot r e).1, ?_⟩, I.kp st⟩
  rw [hq] at e
  cases e
  exact upd_same
theorem pputS_ok {i : Nat} {m : Int} {e : E} : SOk1 Φ n g (.pput i m e) := fun c X k st ok h0 => by
  obtain ⟨⟨x, m', v⟩, e0, h⟩ := any_some (show (shPP st).any (fun p => decide (k.N[i]? = some p.1) && k.vis p.1 && decide (m = p.2.1) && notComp p.2.2 && chkE g e k p.2.2) = true from h0)
  obtain ⟨px, p2, p3, py, pos, rfl⟩ := shPP_of e0
  simp only [Bool.and_eq_true] at h
  obtain ⟨⟨⟨⟨h1, h2⟩, h3⟩, h4⟩, h5⟩ := h
  obtain ⟨q1, q2, q3⟩ := ok.vs h2
  have em : m = m' := of_decide_eq_true h3
  subst em
  have hN : X.N[i]? = some x := by rw [ok.N]; exact of_decide_eq_true h1
  refine PS.of (ps_asg ((E.ok e _ _ _ _ ok.toXOk h5).1 false true) (pg_sub (pos := py) (pe_var (pos := px) hN q1 q2 q3) pe_int set_list (sub_assign rfl)) (sole_no h4) (stores_no2 rfl) rfl) fun Z σ H ⟨F, S, I, f⟩ => ?_
  refine ⟨F, S, I, (FolS.bind (b := false) f).mono fun w H1 ⟨d, S1, s1, r1, fl, e1, kk⟩ => ?_⟩
  split at e1
  case isFalse => cases e1
  rename_i hp
  obtain ⟨nn, e2, e3⟩ := Option.bind_eq_some_iff.mp e1
  obtain ⟨P, e4, e5⟩ := Option.map_eq_some_iff.mp e3
  cases e5
  cases d with
  | int z =>
    cases e2
    have hw := r1.b.int
    subst hw
    obtain ⟨v0, g1, g2⟩ := s1.env.val i .pot (isPot_of hp)
    cases g2 with
    | pot hpa =>
      obtain ⟨_, g3⟩ := s1.env.pot _ hpa
      obtain ⟨I2, k2⟩ := potMut (P := P) s1.env hpa
      unfold Pt.put at e4
      split at e4
      · rename_i hm; subst hm; cases e4
        exact ⟨_, g1, _, _, _, 0, rfl, rfl, g3, rfl, kk σ _ I2 k2⟩
      · split at e4
        · rename_i hm; subst hm; cases e4
          exact ⟨_, g1, _, _, _, 1, rfl, rfl, g3, rfl, kk σ _ I2 k2⟩
        · split at e4
          · rename_i hm; subst hm; cases e4
            exact ⟨_, g1, _, _, _, 2, rfl, rfl, g3, rfl, kk σ _ I2 k2⟩
          · cases e4
  | _ => cases e2
theorem appS_ok {i : Nat} {e : E} : SOk1 Φ n g (.app i e) := fun c X k st ok h0 => by
  obtain ⟨⟨x, v, bl⟩, e0, h⟩ := any_some (show (shMeth "append" st).any (ckMeth g i e k) = true from h0)
  obtain ⟨px, apos, cpos, pos, rfl, eb⟩ := shMeth_of e0
  unfold ckMeth at h
  simp only [Bool.and_eq_true] at h
  obtain ⟨⟨⟨⟨h1, h2⟩, h4⟩, h5⟩, h6⟩ := h
  obtain ⟨q1, q2, q3⟩ := ok.vs h2
  exact app_ok (by rw [ok.N]; exact of_decide_eq_true h1) q1 q2 q3 ((E.ok e _ _ _ _ ok.toXOk h6).1 false true) (of_decide_eq_true (eb.symm.trans h4)) (starEach_cons h5)
theorem extS_ok {i : Nat} {e : E} : SOk1 Φ n g (.ext i e) := fun c X k st ok h0 => by
  obtain ⟨⟨x, v, bl⟩, e0, h⟩ := any_some (show (shMeth "extend" st).any (ckMeth g i e k) = true from h0)
  obtain ⟨px, apos, cpos, pos, rfl, eb⟩ := shMeth_of e0
  unfold ckMeth at h
  simp only [Bool.and_eq_true] at h
  obtain ⟨⟨⟨⟨h1, h2⟩, h4⟩, h5⟩, h6⟩ := h
  obtain ⟨q1, q2, q3⟩ := ok.vs h2
  exact ext_ok (by rw [ok.N]; exact of_decide_eq_true h1) q1 q2 q3 ((E.ok e _ _ _ _ ok.toXOk h6).1 false true) (of_decide_eq_true (eb.symm.trans h4)) (starEach_cons h5)
theorem retS_ok {e : E} : SOk1 Φ n g (.ret e) := fun c X k st ok h0 => by
  obtain ⟨p, e0, h⟩ := any_some (show (shRet st).any (fun p => p.any (chkE g e k)) = true from h0)
  obtain ⟨pos, rfl⟩ := shRet_of e0
  obtain ⟨v, rfl, h⟩ := any_some h
  exact ret_ok ((E.ok e _ _ _ _ ok.toXOk h).1 false true)
theorem retNS_ok : SOk1 Φ n g .retN := fun c X k st ok h0 => by
  obtain ⟨p, e0, h⟩ := any_some (show (shRet st).any (fun p => p.isNone) = true from h0)
  obtain ⟨pos, rfl⟩ := shRet_of e0
  cases p with
  | none => exact retN_ok
  | some v => cases h
theorem expS_ok {e : E} : SOk1 Φ n g (.exp e) := fun c X k st ok h0 => by
  obtain ⟨p, e0, h⟩ := any_some (show (shExp st).any (fun p => notComp p && chkE g e k p) = true from h0)
  obtain ⟨pos, rfl⟩ := shExp_of e0
  rw [Bool.and_eq_true] at h
  exact exp_ok ((E.ok e _ _ _ _ ok.toXOk h.2).1 false true) (swaps_no h.1)
theorem passS_ok : SOk1 Φ n g .pass := fun c X k st ok h0 => by
  have h : (shK st == 1) = true := h0
  cases st <;> first | exact pass_ok | simp [shK] at h
theorem brkS_ok : SOk1 Φ n g .brk := fun c X k st ok h0 => by
  have h : (shK st == 2) = true := h0
  cases st <;> first | exact brk_ok | simp [shK] at h
theorem contS_ok : SOk1 Φ n g .cont := fun c X k st ok h0 => by
  have h : (shK st == 3) = true := h0
  cases st <;> first | exact cont_ok | simp [shK] at h
mutual
theorem S.ok : ∀ (s : S), SOk1 Φ n g s
  | .set fr i e => set_ok
  | .asg t e => asgS_ok
  | .par2 f1 f2 i j a b => par2S_ok
  | .par3 f1 f2 f3 i j l a b d => par3S_ok
  | .put i ix e => putS_ok
  | .pput i m e => pputS_ok
  | .app i e => appS_ok
  | .ext i e => extS_ok
  | .ife cd a b => fun c X k st ok h0 => by
    obtain ⟨⟨t, xs, ys⟩, e0, h⟩ := any_some (show (shIf st).any (fun p => chkE g cd k p.1 && chkSs g a k p.2.1 && chkSs g b k p.2.2) = true from h0)
    obtain ⟨pos, rfl⟩ := shIf_of e0
    simp only [Bool.and_eq_true] at h
    exact ifS_ok ((E.ok cd _ _ _ _ ok.toXOk h.1.1).2 true) (Ss.ok a _ _ _ _ ok h.1.2) (Ss.ok b _ _ _ _ ok h.2)
  | .forr t it b => fun c X k st ok h0 => by
    obtain ⟨⟨tg, iter, xs⟩, e0, h⟩ := any_some (show (shFor st).any (fun p => chkT k t p.1 && notSet p.2.1 && chkI g it k p.2.1 p.1 && chkSs g b k p.2.2) = true from h0)
    obtain ⟨pos, rfl⟩ := shFor_of e0
    simp only [Bool.and_eq_true] at h
    exact for_ok ok.own ok.calm (Itr.ok it _ _ _ _ _ ok.toXOk h.1.2 false true) (T.ok ok.toXOk t h.1.1.1) (Ss.ok b _ _ _ _ ok h.2) (notSet_ok h.1.1.2)
  | .whil cd b => fun c X k st ok h0 => by
    obtain ⟨⟨t, xs⟩, e0, h⟩ := any_some (show (shWhile st).any (fun p => chkE g cd k p.1 && chkSs g b k p.2) = true from h0)
    obtain ⟨pos, rfl⟩ := shWhile_of e0
    simp only [Bool.and_eq_true] at h
    exact while_ok ok.own ((E.ok cd _ _ _ _ ok.toXOk h.1).2 true) (Ss.ok b _ _ _ _ ok h.2)
  | .ret e => retS_ok
  | .retN => retNS_ok
  | .exp e => expS_ok
  | .pass => passS_ok
  | .brk => brkS_ok
  | .cont => contS_ok
  | .dput i ix e => dputS_ok
  | .dupd i e => dupdS_ok
  | .setPop i r e => setPopS_ok
  | .appPop i r e => appPopS_ok
  | .bad => fun c X k x ok h => bad_ok
theorem Ss.ok : ∀ (ss : Ss), SsOk Φ n g ss
  | .nil => fun c X k xs ok h => by
    cases xs with
    | nil => exact nilS_ok
    | cons x xs => cases h
  | .cons s r => fun c X k xs ok h => by
    cases xs with
    | nil => cases h
    | cons x xs =>
      have h : (chkS g s k x && chkSs g r k xs) = true := h
      rw [Bool.and_eq_true] at h
      exact consS_ok (S.ok s _ _ _ _ ok h.1) (Ss.ok r _ _ _ _ ok h.2)
end
end
end Ev

set_option Elab.async false
set_option linter.all false
set_option maxRecDepth 100000
set_option maxHeartbeats 4000000
/-! Ev19: defs. -/
namespace Ev
open PySem PySem.Spec PyProof.Rows L2

/-- a def's body as a function on data -/
noncomputable def fnF (Φ : Str → Option Fn) (n N m : Nat) (ss : Ss) : Fn := fun ds P => if ds.length = m then (match exSs Φ n ss ⟨ds.map SV.val ++ List.replicate (N - m) SV.un, P⟩ with
  | some (.ret d P) => some (.val d, P)
  | some (.nx S) => some (.val .non, S.pot)
  | some (.exc x d S) => some (.exc x d, S.pot)
  | _ => none) else none
section
variable {P : Program} {w : World} {K : Frag} {mg : Str → Option Value} {base : Heap}
def Callee (P : Program) (w : World) (K : Frag) (mg : Str → Option Value) (base : Heap) (j : Nat) (f : Str) (F : Fn) : Prop := ∃ (a : Addr) (fd : FuncData) (ps : List Str), FnG P w K mg base CX0 j a fd ps (spOf F) ∧ mg f = some (.ref a) ∧
  PySem.W.keepIn K (.ref a) = true ∧ Binds K fd ps []
theorem Callee.mono {i j : Nat} {f : Str} {F : Fn} (h : Callee P w K mg base i f F) (l : i ≤ j) : Callee P w K mg base j f F := by
  obtain ⟨a, fd, ps, h1, h2, h3, h4⟩ := h
  exact ⟨a, fd, ps, h1.mono l, h2, h3, h4⟩
theorem Callee.cal {j : Nat} {f : Str} {F : Fn} {X : Cx} {xe : XK} (h : Callee X.prog X.w X.K X.mg X.base j f F) (hr : Room j X.A) (gd : X.A.guards = some []) : CalOk X xe f F := by
  obtain ⟨a, fd, ps, h1, h2, h3, h4⟩ := h
  exact ⟨CX0, j, a, fd, ps, h1, hr, gd, h2, h3, h4, fun pins σ H s e s' I q => False.elim q, fun _ _ _ _ _ q => q⟩
theorem start_get {N : List Str} {vs : List V} {i : Nat} {v : V} (h : vs[i]? = some v) : (L2.start N vs)[i]? = some (some v) := by
  unfold L2.start
  rw [List.getElem?_append_left (by simpa using (List.getElem?_eq_some_iff.mp h).1), List.getElem?_map, h]
  rfl
theorem envStart {c : Ct} {B : AP} {H : Hp} {N : List Str} {vs : List V} {ds : List D} {P0 : Pt} (hd : Dom B H) (hr : RepL c.pa B H vs ds) (hp : PotR c.pa B H P0) (h0 : c.H0 = H) (hl : ds.length ≤ N.length) :
    EnvR c B (L2.start N vs) H ⟨ds.map SV.val ++ List.replicate (N.length - ds.length) SV.un, P0⟩ := by
  have hlen := hr.length
  have get : ∀ {i : Nat} {s : SV}, (ds.map SV.val ++ List.replicate (N.length - ds.length) SV.un)[i]? = some s → (∃ d, ds[i]? = some d ∧ s = .val d) ∨ s = .un := fun {i s} e => by
    by_cases hi : i < ds.length
    · rw [List.getElem?_append_left (by simpa using hi), List.getElem?_map] at e
      obtain ⟨d, h1, h2⟩ := Option.map_eq_some_iff.mp e
      exact .inl ⟨d, h1, h2.symm⟩
    · rw [List.getElem?_append_right (by simpa using hi)] at e
      exact .inr (List.eq_of_mem_replicate (List.mem_of_getElem? e))
  have noOwn : ∀ a, ¬ Own (L2.start N vs) (ds.map SV.val ++ List.replicate (N.length - ds.length) SV.un) a := fun a ⟨i, es, ⟨e1, w⟩, _⟩ => by
    rcases get e1 with ⟨d, _, z⟩ | z <;> (rw [z] at w; cases w)
  have kp : Keep B (Bad B (L2.start N vs) (ds.map SV.val ++ List.replicate (N.length - ds.length) SV.un)) H H := Keep.less fun a z => z.elim id fun w => (noOwn a w).elim
  refine ⟨by unfold L2.start; simp [hlen], hd, hp, fun i d e => ?_, fun i es ⟨e, w⟩ => ?_, fun i j a es fs ⟨e, w⟩ => ?_, fun a o h _ => by rw [← h0]; exact h⟩
  · rcases get e with ⟨d', h1, z⟩ | z
    · cases z
      obtain ⟨v, g1, g2⟩ := hr.get h1
      exact ⟨v, start_get g1, g2.kp kp⟩
    · cases z
  · rcases get e with ⟨d, _, z⟩ | z <;> (rw [z] at w; cases w)
  · rcases get e with ⟨d, _, z⟩ | z <;> (rw [z] at w; cases w)
theorem sp_len {F : Fn} {m : Nat} (hF : ∀ ds P r, F ds P = some r → ds.length = m) : ∀ vs H Q E, spOf F vs H Q E → vs.length = m := fun vs H Q E ⟨pa, B, ds, P, r, P', _, hr, _, e, _⟩ => by
  rw [hr.length]
  exact hF _ _ _ e
theorem fnF_len {Φ : Str → Option Fn} {n N m : Nat} {ss : Ss} : ∀ ds P r, fnF Φ n N m ss ds P = some r → ds.length = m := fun ds P r h => by
  unfold fnF at h
  split at h
  · assumption
  · cases h
/-- what holds of the module's names -/
structure MOk (P : Program) (w : World) (K : Frag) (mg : Str → Option Value) (base : Heap) (Φ : Str → Option Fn) (g : GC) (j : Nat) : Prop where
  blt : ∀ x ∈ bltNames, mg x = none
  glo : ∀ x d, g.gl x d = true → ∃ v u, mg x = some u ∧ RelV v u ∧ ∀ pa B H, Rep pa B H v d
  cal : ∀ f, g.fs f = true → ∃ F, Φ f = some F ∧ Callee P w K mg base j f F
theorem def_ok {Φ : Str → Option Fn} {g : GC} {n j : Nat} {x qual : Str} {params : Arguments} {body : List Stmt} {scope : Scope} {f : Addr} {fd : FuncData} {N ps : List Str} {ss : Ss}
    (F : FunD K x qual params body scope [] [] f fd) (S : FnScope N ps scope) (hn : ps.length ≤ N.length) (M : MOk P w K mg base Φ g j) (hc : chkSs g ss ⟨N, scope, fun _ => true⟩ body = true) (hm : mg x = some (.ref f)) (hb : Binds K fd ps []) :
    Callee P w K mg base (j + 1) x (fnF Φ n N.length ps.length ss) := by
  refine ⟨f, fd, ps, ?_, hm, F.kp, hb⟩
  refine fnG_of (CX := CX0) F S (sp_len fnF_len) fun cdv A outer s H vs Q E hr gd hsp => ?_
  obtain ⟨pa, B, ds, P0, r, P1, hd, hrep, hpot, e, k⟩ := hsp
  have hl := fnF_len _ _ _ e
  let c : Ct := ⟨K, pa, H, fun _ _ _ => False⟩
  refine ⟨tS c (exSs Φ n ss), ?_, ?_⟩
  · refine PSs.nox ?_
    refine Ss.ok ss c _ ⟨N, scope, fun _ => true⟩ body ⟨⟨rfl, S.nd, rfl, rfl, rfl, hr.units, gd, M.blt, fun y d h => ?_, fun y h => ?_⟩, PassesOwn.never, ?_, fun _ z => z⟩ hc
    · obtain ⟨v, u, h1, h2, h3⟩ := M.glo y d h
      exact ⟨v, u, h1, h2, h3 pa⟩
    · obtain ⟨G, h1, h2⟩ := M.cal y h
      exact ⟨G, h1, Callee.cal h2 hr gd⟩
    · show (envOfC qual scope s.heap.objs.size f cdv).blockKind = .function
      unfold Env.blockKind
      rw [show (envOfC qual scope s.heap.objs.size f cdv).scope.kind = .function from S.kind]
      rfl
  · unfold fnF at e
    rw [if_pos hl] at e
    have I : EnvR c B (L2.start N vs) H ⟨ds.map SV.val ++ List.replicate (N.length - ps.length) SV.un, P0⟩ := by
      rw [← hl]
      exact envStart hd hrep hpot rfl (by omega)
    have stp : ∀ {σ' : L2.St} {H' : Hp} {S' : St'}, EnvR c B σ' H' S' → StepE pa H H' := fun {σ' H' S'} I' => by
      refine ⟨fun a o h np => I'.keep a o h np, fun a h => ?_⟩
      by_cases q : pa = some a
      · rw [(I'.pot a q).2]
        exact fun z => nomatch z
      · cases h2 : H a with
        | none => exact absurd h2 h
        | some o =>
          rw [I'.keep a o h2 q]
          exact fun z => nomatch z
    generalize hx : exSs Φ n ss ⟨ds.map SV.val ++ List.replicate (N.length - ps.length) SV.un, P0⟩ = o at e
    cases o with
    | none => cases e
    | some fl =>
      refine ⟨B, _, I, fl, hx, ?_⟩
      cases fl with
      | nx S' =>
        cases e
        exact fun σ' H' I' _ => k H' (stp I') I'.pot .non .non
      | brk S' => cases e
      | ct S' => cases e
      | ret d P2 =>
        cases e
        exact fun v σ' H' env' I' hv => k H' (stp I') I'.pot v (hv.kp (Keep.less fun a z => .inl z))
      | exc y d S' => exact fun σ' H' cls dx I' z => False.elim z
/-- the callees of a def, by name -/
def gcN (gl : Str → D → Bool) (l : List Str) : GC := ⟨gl, fun x => decide (x ∈ l)⟩
def phL (l : List (Str × Fn)) : Str → Option Fn := fun x => l.lookup x
theorem cal_of {j : Nat} {l : List (Str × Fn)} (h : ∀ p ∈ l, Callee P w K mg base j p.1 p.2) : ∀ f, f ∈ l.map (·.1) → ∃ F, l.lookup f = some F ∧ Callee P w K mg base j f F := fun f hf => by
  cases q : l.lookup f with
  | none =>
    obtain ⟨p, hp, rfl⟩ := List.mem_map.mp hf
    have := List.lookup_eq_none_iff.mp q p hp
    simp at this
  | some F => exact ⟨F, rfl, h _ (PySem.mem_of_lookup q)⟩
theorem mok_of {j : Nat} {gl : Str → D → Bool} {l : List (Str × Fn)} (h1 : ∀ x ∈ bltNames, mg x = none) (h2 : ∀ x d, gl x d = true → ∃ v u, mg x = some u ∧ RelV v u ∧ ∀ pa B H, Rep pa B H v d) (h3 : ∀ p ∈ l, Callee P w K mg base j p.1 p.2) :
    MOk P w K mg base (phL l) (gcN gl (l.map (·.1))) j := ⟨h1, h2, fun f h => cal_of h3 f (of_decide_eq_true h)⟩
end
end Ev

set_option Elab.async false
set_option linter.all false
set_option maxRecDepth 100000
set_option maxHeartbeats 4000000
/-! EvPot: the defs of every law that see the script: _law_pot, _law_places. -/
namespace Ev
open PySem PySem.Spec PyProof.Rows L2
abbrev rPlus : R2 := rI0 fun i j => .int (i + j)
abbrev rMulC : R2 := rI CMul fun i j => .int (i * j)
abbrev rModC : R2 := rI (fun _ j => 0 < j) fun i j => .int (i % j)
abbrev rLtC : R2 := rI0 fun i j => .bl (decide (i < j))
abbrev rGeC : R2 := rI0 fun i j => .bl (decide (j ≤ i))
def CPowW (i j : Int) : Prop := 0 ≤ j ∧ (Builtin.Int.intBits i : Int) * j ≤ 2 ^ 27
abbrev rPowC : R2 := rI CPowW fun i j => .int (i ^ j.toNat)
abbrev rAbsC : List V → Hp → VK → Prop := fun xs H Q => ∃ i, xs = [.int i] ∧ Q (.int (if i < 0 then -i else i)) H
abbrev rIntC : List V → Hp → VK → Prop := fun xs H Q => (∃ i, xs = [.int i] ∧ Q (.int i) H) ∨ ∃ k, xs = [.bl k] ∧ Q (.int (if k then 1 else 0)) H
abbrev rLenC (K : Frag) : List V → Hp → VK → Prop := fun xs H Q => ∃ x n, xs = [x] ∧ LenV K x H n ∧ Q (.int n) H
theorem op_powW {X : Cx} : OpR X (binaryOp .Pow) rPowC := fun pins s σ H x y v u Q I rx ry h => by
  obtain ⟨i, j, rfl, rfl, hc, q⟩ := h
  obtain ⟨t, rfl⟩ := rx
  obtain ⟨t', rfl⟩ := ry
  exact PyProof.Rows.pow_int hc.1 hc.2 ⟨.int _, H, I.tok _, ⟨_, rfl⟩, q⟩
section
variable (K : Frag) (A B C D E M : Int)
def te_cell : TE := tIf (tTest (tOp rLtC (tVar 1) (tCB (rLenC K) (tCons (tVar 0) tNil)))) (tOp (rIxL K) (tVar 0) (tVar 1))
  (tOp rPlus (tOp rPlus (tOp rModC (tCB (rSum K) (tCons (tSl (rSlL K) (tVar 0) tNoPart (tPart (tC (.int 1)))) tNil)) (tC (.int 1000003))) (tOp rMulC (tC (.int A)) (tVar 1))) (tC (.int B)))
def te_abs : TE := tCB rAbsC (tCons (tVar 2) tNil)
def te_own : TE := tOp rMulC (tOp rModC (tCB rIntC (tCons te_abs tNil)) (tOp rPowC (tOp rPowC (tC (.int 10)) (tC (.int 60))) (tC (.int 5))))
  (tCB rIntC (tCons (tOp rGeC te_abs (tOp rPowC (tC (.int 10)) (tC (.int 18)))) tNil))
def te_small : TE := tOp rModC (tCB rIntC (tCons (tVar 2) tNil)) (tC (.int 2305843009213693951))
def te_pot : TE := tLst (tCons (tVar 3) (tCons (tOp rModC (tCB rIntC (tCons (tOp rPlus (tOp rPlus (tOp rMulC (tVar 4) (tC (.int C))) (tOp rMulC (tOp rMulC (tC (.int D)) (tVar 1)) (tVar 1))) (tC (.int E))) tNil)) (tC (.int M))) (tCons (tC (.int 0)) tNil)))
def t_pot : TS := tSeq (tAsg (te_cell K A B) (gName 2)) (tSeq (tAsg te_own (gName 3)) (tSeq (tAsg te_small (gName 4)) (tRet (te_pot C D E M))))
def spPot : Sp := fun vs H Q _ => ∃ (a : Addr) (ns : List Int) (place : Int), vs = [.ref a, .int place] ∧ SqL K H a (ns.map V.int) ∧ 0 ≤ place ∧ place < 1000000 ∧
  ∀ H1, Ext H H1 → ∀ p (a b : Int), H1 p = none → 0 ≤ a → 0 ≤ b → b < M → Q (.ref p) (upd H1 p (.lst [.int a, .int b, .int 0]))
end
open Evl (ev_op ev_var ev_c rv_I rv_I0 ea_cons ea_nil)
theorem ev_int1 {te : TE} {σ : L2.St} {H : Hp} {i : Int} (h : Evl.Ev te σ H (.int i)) : Evl.Ev (tCB rIntC (tCons te tNil)) σ H (.int i) := fun H1 e Q q => h H1 e _ fun H2 e2 => .inl ⟨i, rfl, q H2 e2⟩
theorem ev_intb {te : TE} {σ : L2.St} {H : Hp} {k : Bool} (h : Evl.Ev te σ H (.bl k)) : Evl.Ev (tCB rIntC (tCons te tNil)) σ H (.int (if k then 1 else 0)) := fun H1 e Q q => h H1 e _ fun H2 e2 => .inr ⟨k, rfl, q H2 e2⟩
theorem ev_abs {te : TE} {σ : L2.St} {H : Hp} {i : Int} (h : Evl.Ev te σ H (.int i)) : Evl.Ev (tCB rAbsC (tCons te tNil)) σ H (.int (if i < 0 then -i else i)) := fun H1 e Q q => h H1 e _ fun H2 e2 => ⟨i, rfl, q H2 e2⟩
theorem ev_cell {K : Frag} {A B place : Int} {σ : L2.St} {H : Hp} {a : Addr} {ns : List Int} (hA : -(2 ^ 64) < A ∧ A < 2 ^ 64) (h0 : σ[0]? = some (some (.ref a))) (h1 : σ[1]? = some (some (.int place))) (hs : SqL K H a (ns.map V.int)) (hp : 0 ≤ place) :
    ∃ cv : Int, Evl.Ev (te_cell K A B) σ H (.int cv) := by
  have ht : Evl.EvT (tTest (tOp rLtC (tVar 1) (tCB (rLenC K) (tCons (tVar 0) tNil)))) σ H (decide (place < ((ns.map V.int).length : Nat))) := by
    refine Evl.et_test (ev_op (ev_var h1) (y := .int ((ns.map V.int).length : Nat)) ?_ rv_I0)
    exact fun H1 e Q q => ⟨_, h0, _, _, rfl, .inl ⟨_, Evl.ex_l e hs, rfl⟩, q H1 (Evl.Ex.refl _)⟩
  by_cases hl : place < ((ns.map V.int).length : Nat)
  · have hj : place.toNat < ns.length := by
      rw [List.length_map] at hl
      omega
    refine ⟨ns[place.toNat], Evl.ev_if ht (fun _ => ev_op (ev_var h0) (ev_var h1) (Evl.rv_ixL hs ?_)) fun hb => absurd hl (of_decide_eq_false hb)⟩
    unfold atI ixN
    have e1 : (ns.map V.int).length = ns.length := List.length_map _
    rw [e1]
    have hlt : place < (ns.length : Int) := by omega
    simp [hp, hlt, hj]
  · refine ⟨_, Evl.ev_if ht (fun hb => absurd (of_decide_eq_true hb) hl) fun _ => ev_op (ev_op (ev_op (x := .int ((ns.take 1).sum)) ?_ ev_c (rv_I (by decide))) (ev_op ev_c (ev_var h1) (rv_I (.inl hA))) rv_I0) ev_c rv_I0⟩
    intro H1 e Q q
    refine ⟨_, h0, 1, rfl, a, _, rfl, Evl.ex_l e hs, fun p hpn => ?_⟩
    refine ⟨p, ns.take 1, rfl, SqL.of ?_, q _ (Evl.Ex.new hpn)⟩
    rw [upd_same]
    congr 2
    have hc : cutV (ns.map V.int) none (some 1) = (ns.map V.int).take 1 := by
      cases ns with
      | nil => rfl
      | cons n ns => cases ns <;> rfl
    rw [hc, List.map_take]
theorem b01 (k : Bool) : -(2 ^ 64) < (if k = true then (1 : Int) else 0) ∧ (if k = true then (1 : Int) else 0) < 2 ^ 64 := by cases k <;> decide
theorem b01' (k : Bool) : 0 ≤ (if k = true then (1 : Int) else 0) := by cases k <;> decide
theorem pot_walk {K : Frag} {A B C D E M : Int} {N : List Str} (hN : N.length = 5) (hA : -(2 ^ 64) < A ∧ A < 2 ^ 64) (hC : -(2 ^ 64) < C ∧ C < 2 ^ 64) (hD : -(2 ^ 64) < D ∧ D < 2 ^ 64) (hM : 0 < M) (vs : List V) (H : Hp) (Q : VK) (X : XK) (h : spPot K M vs H Q X) :
    t_pot K A B C D E M { nx := fun _ H' => Q .non H', rt := Q } (L2.start N vs) H := by
  obtain ⟨a, ns, place, rfl, hs, p0, p1, q⟩ := h
  have hst : L2.start N [V.ref a, V.int place] = [some (V.ref a), some (V.int place), none, none, none] := by
    unfold L2.start
    rw [hN]
    rfl
  rw [hst]
  obtain ⟨cv, hcv⟩ := ev_cell (B := B) (σ := [some (V.ref a), some (V.int place), none, none, none]) (a := a) (place := place) hA rfl rfl hs p0
  refine hcv H (Evl.Ex.refl H) _ fun H1 e1 => ?_
  show tSeq (tAsg te_own (gName 3)) (tSeq (tAsg te_small (gName 4)) (tRet (te_pot C D E M))) _ [some (V.ref a), some (V.int place), some (V.int cv), none, none] H1
  have habs : Evl.Ev te_abs [some (V.ref a), some (V.int place), some (V.int cv), none, none] H1 (.int (if cv < 0 then -cv else cv)) := ev_abs (ev_var rfl)
  have big : (0 : Int) < (10 ^ (60 : Int).toNat) ^ (5 : Int).toNat := by decide
  have hown : Evl.Ev te_own [some (V.ref a), some (V.int place), some (V.int cv), none, none] H1 (.int ((if cv < 0 then -cv else cv) % ((10 ^ (60 : Int).toNat) ^ (5 : Int).toNat) * (if decide ((10 : Int) ^ (18 : Int).toNat ≤ (if cv < 0 then -cv else cv)) then 1 else 0))) := by
    refine ev_op (ev_op (ev_int1 habs) (ev_op (ev_op ev_c ev_c (rv_I (by unfold CPowW; decide))) ev_c (rv_I (by unfold CPowW; decide))) (rv_I big)) (ev_intb (ev_op habs (ev_op ev_c ev_c (rv_I (by unfold CPowW; decide))) rv_I0)) (rv_I (.inr (b01 _)))
  refine hown H1 (Evl.Ex.refl H1) _ fun H2 e2 => ?_
  generalize hov : (if cv < 0 then -cv else cv) % ((10 ^ (60 : Int).toNat) ^ (5 : Int).toNat) * (if decide ((10 : Int) ^ (18 : Int).toNat ≤ (if cv < 0 then -cv else cv)) then 1 else 0) = ov
  have ov0 : 0 ≤ ov := by
    rw [← hov]
    exact Int.mul_nonneg (Int.emod_nonneg _ (by omega)) (b01' _)
  show tSeq (tAsg te_small (gName 4)) (tRet (te_pot C D E M)) _ [some (V.ref a), some (V.int place), some (V.int cv), some (V.int ov), none] H2
  have hsm : Evl.Ev te_small [some (V.ref a), some (V.int place), some (V.int cv), some (V.int ov), none] H2 (.int (cv % 2305843009213693951)) := ev_op (ev_int1 (ev_var rfl)) ev_c (rv_I (by decide))
  refine hsm H2 (Evl.Ex.refl H2) _ fun H3 e3 => ?_
  generalize hsv : cv % 2305843009213693951 = sv
  show te_pot C D E M [some (V.ref a), some (V.int place), some (V.int cv), some (V.int ov), some (V.int sv)] H3 Q
  have hb : Evl.Ev (tOp rModC (tCB rIntC (tCons (tOp rPlus (tOp rPlus (tOp rMulC (tVar 4) (tC (.int C))) (tOp rMulC (tOp rMulC (tC (.int D)) (tVar 1)) (tVar 1))) (tC (.int E))) tNil)) (tC (.int M))) [some (V.ref a), some (V.int place), some (V.int cv), some (V.int ov), some (V.int sv)] H3 (.int ((sv * C + D * place * place + E) % M)) :=
    ev_op (ev_int1 (ev_op (ev_op (ev_op (ev_var rfl) ev_c (rv_I (.inr hC))) (ev_op (ev_op ev_c (ev_var rfl) (rv_I (.inl hD))) (ev_var rfl) (rv_I (.inr ⟨by omega, by omega⟩))) rv_I0) ev_c rv_I0)) ev_c (rv_I hM)
  refine ⟨_, rfl, hb H3 (Evl.Ex.refl H3) _ fun H4 e4 => ?_⟩
  refine ⟨by show 3 ≤ sizeLine; decide, fun p hp => ?_⟩
  exact q H4 (((e1.trans e2).trans e3).trans e4) p ov _ hp ov0 (Int.emod_nonneg _ (by omega)) (Int.emod_lt_of_pos _ hM)
end Ev

set_option Elab.async false
set_option linter.all false
set_option maxRecDepth 100000
set_option maxHeartbeats 4000000
/-! EvLaw: law(script): a loop over places, a pot for each, then statements that the small syntax covers. -/
namespace Ev
open PySem PySem.Spec PyProof.Rows L2
def te_places (K : Frag) : TE := tLstRg (tRg1 (tCB (fun xs H Q => ∃ i j, xs = [V.int i, V.int j] ∧ Q (.int (if j > i then j else i)) H) (tCons (tC (.int 1)) (tCons (tCB (fun xs H Q => ∃ i j, xs = [V.int i, V.int j] ∧ Q (.int (if j < i then j else i)) H) (tCons (tVar 1) (tCons (tCB (rLenC K) (tCons (tVar 0) tNil)) tNil))) tNil))))
def spPlaces (K : Frag) : Sp := fun vs H Q _ => ∃ (a : Addr) (ns : List Int) (most : Int), vs = [.ref a, .int most] ∧ SqL K H a (ns.map V.int) ∧ 0 ≤ most ∧ most < 1000000 ∧
  ∀ p k, H p = none → 0 ≤ k → k < 1000000 → Q (.ref p) (upd H p (.lst (rgV 0 k)))
theorem places_walk {K : Frag} {N : List Str} (hN : N.length = 2) (vs : List V) (H : Hp) (Q : VK) (X : XK) (h : spPlaces K vs H Q X) :
    tRet (te_places K) { nx := fun _ H' => Q .non H', rt := Q } (L2.start N vs) H := by
  obtain ⟨a, ns, most, rfl, hs, p0, p1, q⟩ := h
  have hst : L2.start N [V.ref a, V.int most] = [some (V.ref a), some (V.int most)] := by
    unfold L2.start
    rw [hN]
    rfl
  rw [hst]
  refine ⟨_, rfl, _, rfl, _, _, rfl, .inl ⟨_, hs, rfl⟩, most, _, rfl, 1, _, rfl, _, rfl, ?_, fun p hp => ?_⟩
  · refine RgOk.of_le (by decide) ?_ (by decide) ?_ <;> (split <;> split <;> omega)
  · exact q p _ hp (by split <;> split <;> omega) (by split <;> split <;> omega)
/-- statements of the small syntax, in some world -/
def tX (H0 : Hp) (f : St' → Option Fl) : TS := fun D σ H => ∃ c, (∀ a, c.H0 a = none → H0 a = none) ∧ tS c f D σ H
theorem x_okH {X : Cx} {xs : List Stmt} {f : St' → Option Fl} (h : ∀ c, (∀ a, c.H0 a = none → X.H_0 a = none) → PSs X xs (tS c f)) : PSs X xs (tX X.H_0 f) := ⟨fun pins s σ H D I ⟨c, h0, q⟩ => (h c h0).run pins s σ H D I q⟩
def spLawE (K : Frag) : Sp := fun vs H Q _ => ∃ (a : Addr) (ns : List Int), vs = [.ref a] ∧ SqL K H a (ns.map V.int) ∧ ∀ H', Q (.bl true) H'
def t_law (H0 : Hp) (K : Frag) (M most : Int) (f : St' → Option Fl) (tail : TS) : TS := tSeq (tFor (iList K (tCall (spPlaces K) [] E0 (tCons (tVar 0) (tCons (tC (.int most)) tNil)))) (gName 1)
  (tSeq (tAsg (tCall (spPot K M) [] E0 (tCons (tVar 0) (tCons (tVar 1) tNil))) (gName 2)) (tX H0 f))) tail
/-- the slots behind the pot's making -/
def env0 (n : Nat) (a : Addr) (place : Int) : List SV := (((List.replicate n SV.un).set 0 (.val (.opq a))).set 1 (.val (.int place))).set 2 (.val .pot)
def Pot0 (M : Int) (P : Pt) : Prop := 0 ≤ P.a ∧ 0 ≤ P.b ∧ P.b < M ∧ P.c = 0
def RestOk (M : Int) (n : Nat) (f : St' → Option Fl) : Prop := ∀ (a : Addr) (place : Int) (P : Pt), Pot0 M P → ∃ S', (f ⟨env0 n a place, P⟩ = some (.nx S') ∨ f ⟨env0 n a place, P⟩ = some (.ct S')) ∧ S'.env.length = n ∧ S'.env[0]? = some (.val (.opq a))
theorem env0_get {n : Nat} {a : Addr} {place : Int} (hn : 3 ≤ n) {i : Nat} {s : SV} (h : (env0 n a place)[i]? = some s) : (i = 0 ∧ s = .val (.opq a)) ∨ (i = 1 ∧ s = .val (.int place)) ∨ (i = 2 ∧ s = .val .pot) ∨ s = .un := by
  unfold env0 at h
  rcases set_get h with ⟨z1, z2⟩ | ⟨_, h⟩
  · exact .inr (.inr (.inl ⟨z1.symm, z2.symm⟩))
  · rcases set_get h with ⟨z1, z2⟩ | ⟨_, h⟩
    · exact .inr (.inl ⟨z1.symm, z2.symm⟩)
    · rcases set_get h with ⟨z1, z2⟩ | ⟨_, h⟩
      · exact .inl ⟨z1.symm, z2.symm⟩
      · exact .inr (.inr (.inr (List.eq_of_mem_replicate (List.mem_of_getElem? h))))
theorem env0_start {c : Ct} {σ : L2.St} {H : Hp} {n : Nat} {a p : Addr} {place : Int} {P : Pt} (hn : 3 ≤ n) (hl : σ.length = n) (hpa : c.pa = some p) (h0 : c.H0 = H) (g0 : σ[0]? = some (some (.ref a))) (g1 : σ[1]? = some (some (.int place))) (g2 : σ[2]? = some (some (.ref p)))
    (hp : H p = some (.lst [.int P.a, .int P.b, .int P.c])) : EnvR c (fun b => b = p) σ H ⟨env0 n a place, P⟩ := by
  refine ⟨by rw [hl]; unfold env0; simp, fun b e => ?_, fun q e => ?_, fun i d e => ?_, fun i ds ⟨e, w⟩ => ?_, fun i j b ds es ⟨e, w⟩ => ?_, fun b o h _ => by rw [← h0]; exact h⟩
  · rw [e, hp]
    exact fun z => nomatch z
  · rw [hpa] at e
    cases e
    exact ⟨rfl, hp⟩
  · rcases env0_get hn e with ⟨rfl, z⟩ | ⟨rfl, z⟩ | ⟨rfl, z⟩ | z
    · cases z; exact ⟨_, g0, .opq _⟩
    · cases z; exact ⟨_, g1, .int _⟩
    · cases z; exact ⟨_, g2, .pot hpa⟩
    · cases z
  · rcases env0_get hn e with ⟨_, z⟩ | ⟨_, z⟩ | ⟨_, z⟩ | z <;> (rw [z] at w; cases w)
  · rcases env0_get hn e with ⟨_, z⟩ | ⟨_, z⟩ | ⟨_, z⟩ | z <;> (rw [z] at w; cases w)
/-- what stands behind the loop -/
def TailOk (n : Nat) (f : St' → Option Fl) : Prop := ∀ a, ∃ P', f ⟨(List.replicate n SV.un).set 0 (.val (.opq a)), ⟨0, 0, 0⟩⟩ = some (.ret (.bl true) P')
theorem tail_ok {K : Frag} {H H' : Hp} {n : Nat} {f : St' → Option Fl} {a : Addr} {D : Ends} {σ : L2.St} (hf : TailOk n f) (hn : 1 ≤ n) (hl : σ.length = n) (g0 : σ[0]? = some (some (V.ref a))) (hs : ∀ b o, H b = some o → H' b = some o) (q : ∀ H', D.rt (.bl true) H') : tX H f D σ H' := by
  obtain ⟨P', e⟩ := hf a
  have get : ∀ {i : Nat} {s : SV}, ((List.replicate n SV.un).set 0 (.val (.opq a)))[i]? = some s → (i = 0 ∧ s = .val (.opq a)) ∨ s = .un := fun {i s} z => by
    rcases set_get z with ⟨z1, z2⟩ | ⟨_, z⟩
    · exact .inl ⟨z1.symm, z2.symm⟩
    · exact .inr (List.eq_of_mem_replicate (List.mem_of_getElem? z))
  have I : EnvR ⟨K, none, H', fun _ _ _ => False⟩ (fun _ => False) σ H' ⟨(List.replicate n SV.un).set 0 (.val (.opq a)), ⟨0, 0, 0⟩⟩ := by
    refine ⟨by rw [hl]; simp, fun b z => z.elim, fun q z => (nomatch z), fun i d z => ?_, fun i ds z => ?_, fun i j b ds es z => ?_, fun b o z _ => z⟩
    · rcases get z with ⟨rfl, y⟩ | y
      · cases y
        exact ⟨_, g0, .opq _⟩
      · cases y
    · obtain ⟨z, w⟩ := z
      rcases get z with ⟨_, y⟩ | y <;> (rw [y] at w; cases w)
    · obtain ⟨z, w⟩ := z
      rcases get z with ⟨_, y⟩ | y <;> (rw [y] at w; cases w)
  refine ⟨⟨K, none, H', fun _ _ _ => False⟩, fun b z => ?_, fun _ => False, _, I, _, e, fun v σ2 H2 env2 I2 r2 => ?_⟩
  · cases y : H b with
    | none => rfl
    | some o =>
      have z : H' b = none := z
      have := hs b o y
      rw [z] at this
      cases this
  · cases r2
    exact q _
theorem law_walk {K : Frag} {M most : Int} {N : List Str} {f : St' → Option Fl} {tail : TS} (hN : 3 ≤ N.length) (hm : 0 ≤ most ∧ most < 1000000) (hf : RestOk M N.length f) (vs : List V) (H : Hp) (Q : VK) (X : XK) (h : spLawE K vs H Q X)
    (ht : ∀ (a : Addr) (D : Ends) σ H', σ.length = N.length → σ[0]? = some (some (V.ref a)) → (∀ b o, H b = some o → H' b = some o) → (∀ H', D.rt (.bl true) H') → tail D σ H') :
    t_law H K M most f tail { nx := fun _ H' => Q .non H', rt := Q } (L2.start N vs) H := by
  obtain ⟨a, ns, rfl, hs, q⟩ := h
  have l0 : (L2.start N [V.ref a]).length = N.length := by
    unfold L2.start
    simp
    omega
  have g0 : (L2.start N [V.ref a])[0]? = some (some (V.ref a)) := rfl
  generalize L2.start N [V.ref a] = σ0 at l0 g0
  refine ⟨_, g0, ?_⟩
  refine ⟨a, ns, most, rfl, hs, hm.1, hm.2, fun pl k hpl k0 k1 => ?_⟩
  have st0 : ∀ {b : Addr} {o : HO}, H b = some o → upd H pl (.lst (rgV 0 k)) b = some o := fun {b o} e => by
    rw [upd_ne (ne_of_none e hpl)]
    exact e
  have keepS : ∀ {Ha Hb : Hp}, SqL K Ha a (ns.map V.int) → (∀ o, Ha a = some o → Hb a = some o) → SqL K Hb a (ns.map V.int) := fun {Ha Hb} h k => by
    rcases h with (h | ⟨o, h⟩) | h
    · exact .inl (.inl (k _ h))
    · exact .inl (.inr ⟨o, k _ h⟩)
    · exact .inr h
  refine ⟨pl, rfl, ⟨_, SqL.of upd_same⟩, ?_⟩
  refine for_list (xs := rgV 0 k) (fun _ σ Hn => σ.length = N.length ∧ σ[0]? = some (some (V.ref a)) ∧ SqL K Hn a (ns.map V.int) ∧ Hn pl = some (.lst (rgV 0 k)) ∧ ∀ b o, H b = some o → Hn b = some o) ⟨l0, g0, keepS hs fun o e => st0 e, upd_same, fun b o e => st0 e⟩
    (fun i σ H _ p => SqL.of p.2.2.2.1) (fun i x σ H1 hx p => ?_) fun σ H1 p => ?_
  · obtain ⟨p1, p2, p3, p4, p5⟩ := p
    have hxv : ∃ place : Int, x = .int place ∧ 0 ≤ place ∧ place < 1000000 := by
      unfold rgV at hx
      rw [List.getElem?_map] at hx
      obtain ⟨j, hj, rfl⟩ := Option.map_eq_some_iff.mp hx
      have hj2 := List.mem_range.mp (List.mem_of_getElem? hj)
      exact ⟨_, rfl, by omega, by omega⟩
    obtain ⟨place, rfl, pl0, pl1⟩ := hxv
    have s1 : (σ.set 1 (some (V.int place)))[0]? = some (some (V.ref a)) := by rw [List.getElem?_set_ne (by decide)]; exact p2
    have s2 : (σ.set 1 (some (V.int place)))[1]? = some (some (V.int place)) := List.getElem?_set_self (by omega)
    refine ⟨_, s1, _, s2, ?_⟩
    refine ⟨a, ns, place, rfl, p3, pl0, pl1, fun H2 e2 p pa pb hp a0 b0 bM => ?_⟩
    have ep : ∀ {b : Addr} {o : HO}, H1 b = some o → upd H2 p (.lst [.int pa, .int pb, .int 0]) b = some o := fun {b o} e => by
      rw [upd_ne (ne_of_none (e2 _ _ e) hp)]
      exact e2 _ _ e
    obtain ⟨S', hS, hl', h0'⟩ := hf a place ⟨pa, pb, 0⟩ ⟨a0, b0, bM, rfl⟩
    have I := env0_start (c := ⟨K, some p, upd H2 p (.lst [.int pa, .int pb, .int 0]), fun _ _ _ => False⟩) (σ := (σ.set 1 (some (V.int place))).set 2 (some (V.ref p))) (n := N.length) (a := a) (p := p) (place := place) (P := ⟨pa, pb, 0⟩) hN (by simp [p1]) rfl rfl
      (by rw [List.getElem?_set_ne (by decide)]; exact s1) (by rw [List.getElem?_set_ne (by decide)]; exact s2) (List.getElem?_set_self (by rw [List.length_set]; omega)) upd_same
    have fin : ∀ σ' H', EnvR ⟨K, some p, upd H2 p (.lst [.int pa, .int pb, .int 0]), fun _ _ _ => False⟩ (fun b => b = p) σ' H' S' → σ'.length = N.length ∧ σ'[0]? = some (some (V.ref a)) ∧ SqL K H' a (ns.map V.int) ∧ H' pl = some (.lst (rgV 0 k)) ∧ ∀ b o, H b = some o → H' b = some o := fun σ' H' I' => by
      have kk : ∀ {b : Addr} {o : HO}, H1 b = some o → H' b = some o := fun {b o} e => I'.keep b o (ep e) fun z => by
        cases z
        have := e2 _ _ e
        rw [hp] at this
        cases this
      obtain ⟨v, v1, v2⟩ := I'.val 0 (.opq a) h0'
      cases v2
      exact ⟨I'.len.trans hl', v1, keepS p3 fun o e => kk e, kk p4, fun b o e => kk (p5 b o e)⟩
    have hn0 : ∀ b, upd H2 p (.lst [.int pa, .int pb, .int 0]) b = none → H b = none := fun b z => by
      cases q : H b with
      | none => rfl
      | some o =>
        have := ep (p5 b o q)
        rw [z] at this
        cases this
    rcases hS with hS | hS
    · exact ⟨_, hn0, _, _, I, .nx S', hS, fun σ' H' I' _ => fin σ' H' I'⟩
    · exact ⟨_, hn0, _, _, I, .ct S', hS, fun σ' H' I' _ => fin σ' H' I'⟩
  · exact ht a _ σ H1 p.1 p.2.1 p.2.2.2.2 q
end Ev

set_option Elab.async false
set_option linter.all false
set_option maxRecDepth 100000
set_option maxHeartbeats 4000000
/-! Ev20: the evaluator's equations, for simp. -/
namespace Ev
open PySem PySem.Spec PyProof.Rows L2
def tupS (ds : List D) (S : St') : Option (Res × St') := if ds.length ≤ LIM then some (.val (.tup ds), S) else none
def lstS (ds : List D) (S : St') : Option (Res × St') := if ds.length ≤ LIM then some (.val (.lst ds), S) else none
theorem le_lim {k : Nat} (h : k ≤ 1000000) : k ≤ LIM := Nat.le_trans h (by decide)
@[simp] theorem tupS_ok {ds : List D} {S : St'} (h : ds.length ≤ 1000000) : tupS ds S = some (.val (.tup ds), S) := if_pos (le_lim h)
@[simp] theorem lstS_ok {ds : List D} {S : St'} (h : ds.length ≤ 1000000) : lstS ds S = some (.val (.lst ds), S) := if_pos (le_lim h)
section
variable {Φ : Str → Option Fn} {n : Nat} {bo fz : Bool} {S : St'}
@[simp] theorem bindV_val {α : Type} {d : D} {f : D → St' → Option (α × St')} {g : Str → D → α} : bindV (some (.val d, S)) f g = f d S := (rfl)
@[simp] theorem bindL_vals {ds : List D} {f : List D → St' → Option (Res × St')} : bindL (some (.vals ds, S)) f = f ds S := (rfl)
@[simp] theorem bindF_val {d : D} {f : D → St' → Option Fl} : bindF (some (.val d, S)) f = f d S := (rfl)
@[simp] theorem pureV_some {d : D} : pureV (some d) S = some (.val d, S) := (rfl)
@[simp] theorem ev_slot {i : Nat} : ev Φ (.slot i) bo fz S = readS bo fz i S := (rfl)
@[simp] theorem ev_con {d : D} : ev Φ (.con d) bo fz S = some (.val d, S) := (rfl)
@[simp] theorem ev_glo {x : Str} {d : D} : ev Φ (.glo x d) bo fz S = some (.val d, S) := (rfl)
@[simp] theorem ev_tup {es : Es} : ev Φ (.tup es) bo fz S = bindL (evs Φ es false fz S) tupS := (rfl)
@[simp] theorem ev_lst {es : Es} : ev Φ (.lst es) bo fz S = bindL (evs Φ es false fz S) lstS := (rfl)
@[simp] theorem ev_bin {o : BOp} {a b : E} : ev Φ (.bin o a b) bo fz S = bindR (ev Φ a true fz S) fun x S => bindR (ev Φ b true fz S) fun y S => pureV (binD o x y) S := (rfl)
@[simp] theorem ev_cmp {o : COp} {a b : E} : ev Φ (.cmp o a b) bo fz S = bindR (ev Φ a true fz S) fun x S => bindR (ev Φ b true fz S) fun y S => pureV (cmpD o x y) S := (rfl)
@[simp] theorem ev_chn {o p : COp} {a b c : E} : ev Φ (.chn o p a b c) bo fz S = bindR (ev Φ a true fz S) fun x S => bindR (ev Φ b true fz S) fun y S => (cmpB o x y).bind fun k =>
      if k then bindR (ev Φ c true fz S) fun z S => pureV (cmpD p y z) S else some (.val (.bl false), S) := (rfl)
@[simp] theorem ev_and {es : Es} : ev Φ (.and es) bo fz S = evAnd Φ es bo fz S := (rfl)
@[simp] theorem ev_or {es : Es} : ev Φ (.or es) bo fz S = evOr Φ es bo fz S := (rfl)
@[simp] theorem ev_not {a : E} : ev Φ (.not a) bo fz S = bindR (ev Φ a true fz S) fun x S => pureV ((truD x).map fun b => .bl (!b)) S := (rfl)
@[simp] theorem ev_neg {a : E} : ev Φ (.neg a) bo fz S = bindR (ev Φ a true fz S) fun x S => pureV ((intOf x).map fun i => .int (-i)) S := (rfl)
@[simp] theorem ev_ife {c a b : E} : ev Φ (.ife c a b) bo fz S = bindR (ev Φ c true fz S) fun x S => (truD x).bind fun k => if k then ev Φ a bo fz S else ev Φ b bo fz S := (rfl)
@[simp] theorem ev_idx {a i : E} : ev Φ (.idx a i) bo fz S = bindR (ev Φ a true fz S) fun x S => bindR (ev Φ i true fz S) fun y S => pureV (idxD x y) S := (rfl)
@[simp] theorem ev_slc {a : E} {lo hi : Eo} : ev Φ (.slc a lo hi) bo fz S = bindR (ev Φ a true fz S) fun x S => bindR (evo Φ lo fz S) fun l S => (partOf l).bind fun l => bindR (evo Φ hi fz S) fun h S => (partOf h).bind fun h => pureV (slcD x l h) S := (rfl)
@[simp] theorem ev_bi {b : BI} {es : Es} : ev Φ (.bi b es) bo fz S = bindL (evs Φ es true fz S) fun ds S => pureV (b.fn ds) S := (rfl)
@[simp] theorem ev_sset {a : E} : ev Φ (.sset a) bo fz S = bindR (ev Φ a true fz S) fun x S => pureV (ssetF [x]) S := (rfl)
@[simp] theorem ev_isi {t : Ty} {a : E} : ev Φ (.isi t a) bo fz S = bindR (ev Φ a true fz S) fun x S => pureV ((isiD t x).map D.bl) S := (rfl)
@[simp] theorem ev_cal {f : Str} {es : Es} : ev Φ (.cal f es) bo fz S = bindL (evs Φ es false fz S) fun ds S => (Φ f).bind fun g => (g ds S.pot).map fun (r, P) => (r, ⟨S.env, P⟩) := (rfl)
@[simp] theorem ev_mix {r a : E} : ev Φ (.mix r a) bo fz S = bindR (ev Φ r true fz S) fun x S => if isMix x then bindR (ev Φ a true fz S) fun y S => pureV (idxOfF x [y]) S else none := (rfl)
@[simp] theorem ev_pget {i : Nat} {k : Int} : ev Φ (.pget i k) bo fz S = if isPot (S.env[i]?) then (S.pot.cell k).map fun n => (.val (.int n), S) else none := (rfl)
theorem ev_lc {elt : E} {t : T} {it : Itr} {c : Eo} {own : List Nat} : ev Φ (.lc elt t it c own) bo fz S = (evi Φ it true fz S).bind fun (items, S) =>
      if items.length ≤ LIM ∧ own.all (fun i => notOwn S.env i) = true then (lcRun (lcBody t (wipeE S.env own) (evc Φ c) (ev Φ elt false false)) items S.pot).map fun (ds, P) => (.val (.lst ds), ⟨S.env, P⟩) else none := (rfl)
@[simp] theorem evs_nil : evs Φ .nil bo fz S = some (.vals [], S) := (rfl)
@[simp] theorem evs_cons {e : E} {r : Es} : evs Φ (.cons false e r) bo fz S = bindV (ev Φ e (bo || false) fz S) (fun x S => match evs Φ r bo fz S with
      | some (.vals ys, S) => some (.vals (x :: ys), S)
      | some (.exc c d, S) => some (.exc c d, S)
      | none => none) RL.exc := (rfl)
@[simp] theorem evs_star {e : E} {r : Es} : evs Φ (.cons true e r) bo fz S = bindV (ev Φ e (bo || true) fz S) (fun x S => (seqOf x).bind fun xs => match evs Φ r bo fz S with
      | some (.vals ys, S) => some (.vals (xs ++ ys), S)
      | some (.exc c d, S) => some (.exc c d, S)
      | none => none) RL.exc := (rfl)
@[simp] theorem evo_no : evo Φ .no fz S = some (.val .non, S) := (rfl)
@[simp] theorem evo_so {e : E} : evo Φ (.so e) fz S = bindR (ev Φ e true fz S) fun x S => (intOf x).bind fun i => some (.val (.int i), S) := (rfl)
@[simp] theorem evc_no : evc Φ .no S = some (true, S.pot) := (rfl)
@[simp] theorem evc_so {e : E} : evc Φ (.so e) S = (ev Φ e true false S).bind fun (r, S) => (match r with
    | .val d => (truD d).map fun k => (k, S.pot)
    | .exc _ _ => none) := (rfl)
@[simp] theorem evAnd_one {s : Bool} {e : E} : evAnd Φ (.cons s e .nil) bo fz S = ev Φ e bo fz S := (rfl)
@[simp] theorem evAnd_cons {s s2 : Bool} {e e2 : E} {r : Es} : evAnd Φ (.cons s e (.cons s2 e2 r)) bo fz S = bindR (ev Φ e bo fz S) fun x S => (truD x).bind fun k => if k then evAnd Φ (.cons s2 e2 r) bo fz S else some (.val x, S) := (rfl)
@[simp] theorem evOr_one {s : Bool} {e : E} : evOr Φ (.cons s e .nil) bo fz S = ev Φ e bo fz S := (rfl)
@[simp] theorem evOr_cons {s s2 : Bool} {e e2 : E} {r : Es} : evOr Φ (.cons s e (.cons s2 e2 r)) bo fz S = bindR (ev Φ e bo fz S) fun x S => (truD x).bind fun k => if k then some (.val x, S) else evOr Φ (.cons s2 e2 r) bo fz S := (rfl)
@[simp] theorem evi_seq {e : E} : evi Φ (.seq e) bo fz S = (ev Φ e bo fz S).bind fun (r, S) => (match r with
    | .val d => (seqOf d).map fun xs => (xs, S)
    | .exc _ _ => none) := (rfl)
theorem evi_rng1 {e : E} : evi Φ (.rng1 e) bo fz S = (ev Φ e true fz S).bind fun (r, S) => (match r with
    | .val d => (kRng1 d).map fun xs => (xs, S)
    | .exc _ _ => none) := (rfl)
theorem evi_rng2 {a b : E} : evi Φ (.rng2 a b) bo fz S = (ev Φ a true fz S).bind fun (r, S) => (match r with
    | .val (.int i) => (ev Φ b true fz S).bind fun (r, S) => (match r with
      | .val (.int j) => (rngD i j).map fun xs => (xs, S)
      | _ => none)
    | _ => none) := (rfl)
theorem evi_rng1_ok {e : E} {j : Int} {S1 : St'} {xs : List D} (h1 : ev Φ e true fz S = some (.val (.int j), S1)) (h2 : rngD 0 j = some xs) : evi Φ (.rng1 e) bo fz S = some (xs, S1) := by
  rw [evi_rng1, h1, Option.bind_some]
  show (rngD 0 j).map (fun xs => (xs, S1)) = _
  rw [h2]
  rfl
theorem evi_rng2_ok {a b : E} {i j : Int} {S1 S2 : St'} {xs : List D} (h1 : ev Φ a true fz S = some (.val (.int i), S1)) (h2 : ev Φ b true fz S1 = some (.val (.int j), S2)) (h3 : rngD i j = some xs) : evi Φ (.rng2 a b) bo fz S = some (xs, S2) := by
  rw [evi_rng2, h1, Option.bind_some]
  show ((ev Φ b true fz S1).bind fun (x : Res × St') => (match x.1 with
      | .val (.int j) => (rngD i j).map fun xs => (xs, x.2)
      | _ => none)) = _
  rw [h2, Option.bind_some]
  show (rngD i j).map (fun xs => (xs, S2)) = _
  rw [h3]
  rfl
theorem evi_rng2_same {a b : E} {i j : Int} {xs : List D} (h1 : ev Φ a true fz S = some (.val (.int i), S)) (h2 : ev Φ b true fz S = some (.val (.int j), S)) (h3 : rngD i j = some xs) : evi Φ (.rng2 a b) bo fz S = some (xs, S) := evi_rng2_ok h1 h2 h3
@[simp] theorem evi_enum {e : E} : evi Φ (.enum e) bo fz S = (ev Φ e bo fz S).bind fun (r, S) => (match r with
    | .val d => (seqOf d).map fun xs => (enumL 0 xs, S)
    | .exc _ _ => none) := (rfl)
@[simp] theorem exSs_nil : exSs Φ n .nil S = some (.nx S) := (rfl)
@[simp] theorem exSs_cons {s : Ev.S} {r : Ss} : exSs Φ n (.cons s r) S = (exS Φ n s S).bind fun fl => match fl with
  | .nx S => exSs Φ n r S
  | fl => some fl := (rfl)
@[simp] theorem exS_set {fr : Bool} {i : Nat} {e : E} : exS Φ n (.set fr i e) S = bindF (ev Φ e false true S) fun d S => (svOf fr d).bind fun v => (setS i v S).map .nx := (rfl)
@[simp] theorem exS_asg {t : T} {e : E} : exS Φ n (.asg t e) S = bindF (ev Φ e false true S) fun d S => (bindT t d S.env).map fun env => .nx ⟨env, S.pot⟩ := (rfl)
@[simp] theorem exS_par2 {f1 f2 : Bool} {i j : Nat} {a b : E} : exS Φ n (.par2 f1 f2 i j a b) S = bindF (ev Φ a false true S) fun x S => (svOf f1 x).bind fun v => bindF (ev Φ b false true S) fun y S => (svOf f2 y).bind fun w =>
      (setS i v S).bind fun S => (setS j w S).map .nx := (rfl)
@[simp] theorem exS_par3 {f1 f2 f3 : Bool} {i j l : Nat} {a b c : E} : exS Φ n (.par3 f1 f2 f3 i j l a b c) S = bindF (ev Φ a false true S) fun x S => (svOf f1 x).bind fun u => bindF (ev Φ b false true S) fun y S => (svOf f2 y).bind fun v => bindF (ev Φ c false true S) fun z S => (svOf f3 z).bind fun w =>
      (setS i u S).bind fun S => (setS j v S).bind fun S => (setS l w S).map .nx := (rfl)
@[simp] theorem exS_put {i : Nat} {ix e : E} : exS Φ n (.put i ix e) S = bindF (ev Φ e false true S) fun d S => (ownAt S i).bind fun _ => bindF (ev Φ ix true true S) fun k S => (intOf k).bind fun k => (ownAt S i).bind fun ds =>
      (ixN ds.length k).bind fun j => (setS i (.own (ds.set j d)) S).map .nx := (rfl)
@[simp] theorem exS_pput {i : Nat} {k : Int} {e : E} : exS Φ n (.pput i k e) S = bindF (ev Φ e false true S) fun d S => if isPot (S.env[i]?) then (intOf d).bind fun n => (S.pot.put k n).map fun P => .nx ⟨S.env, P⟩ else none := (rfl)
@[simp] theorem exS_app {i : Nat} {e : E} : exS Φ n (.app i e) S = (ownAt S i).bind fun _ => bindF (ev Φ e false true S) fun d S => (ownAt S i).bind fun ds => if ds.length < LIM then (setS i (.own (ds ++ [d])) S).map .nx else none := (rfl)
@[simp] theorem exS_ext {i : Nat} {e : E} : exS Φ n (.ext i e) S = (ownAt S i).bind fun _ => bindF (ev Φ e false true S) fun d S => match d with
    | .lst es => (ownAt S i).bind fun ds => if ds.length + es.length ≤ LIM then (setS i (.own (ds ++ es)) S).map .nx else none
    | _ => none := (rfl)
@[simp] theorem exS_ife {c : E} {a b : Ss} : exS Φ n (.ife c a b) S = bindF (ev Φ c true true S) fun d S => (truD d).bind fun k => if k then exSs Φ n a S else exSs Φ n b S := (rfl)
@[simp] theorem exS_forr {t : T} {it : Itr} {b : Ss} : exS Φ n (.forr t it b) S = (evi Φ it false true S).bind fun (items, S) => forRun t (exSs Φ n b) items S := (rfl)
@[simp] theorem exS_ret {e : E} : exS Φ n (.ret e) S = bindF (ev Φ e false true S) fun d S => some (.ret d S.pot) := (rfl)
@[simp] theorem exS_retN : exS Φ n .retN S = some (.ret .non S.pot) := (rfl)
@[simp] theorem exS_exp {e : E} : exS Φ n (.exp e) S = bindF (ev Φ e false true S) fun _ S => some (.nx S) := (rfl)
@[simp] theorem exS_pass : exS Φ n .pass S = some (.nx S) := (rfl)
@[simp] theorem exS_bad : exS Φ n .bad S = none := (rfl)
@[simp] theorem truD_bl {b : Bool} : truD (.bl b) = some b := (rfl)
@[simp] theorem truD_int {i : Int} : truD (.int i) = some (i != 0) := (rfl)
@[simp] theorem truD_non : truD .non = some false := (rfl)
@[simp] theorem bindT_nm {i : Nat} {d : D} {env : List SV} : bindT (.nm i) d env = if i < env.length then some (env.set i (.val d)) else none := by unfold bindT; rfl
@[simp] theorem bindT_tup {ts : Ts} {ds : List D} {env : List SV} : bindT (.tup ts) (.tup ds) env = bindTs ts ds env := by unfold bindT; rfl
@[simp] theorem bindTs_nil {env : List SV} : bindTs .nil [] env = some env := by unfold bindTs; rfl
@[simp] theorem bindTs_cons {t : T} {r : Ts} {d : D} {ds : List D} {env : List SV} : bindTs (.cons t r) (d :: ds) env = (bindT t d env).bind fun env => bindTs r ds env := by rw [bindTs]
end
theorem ord_int (i j : Int) : ordOk (.int i) (.int j) = true := (rfl)
theorem dl_int (i j : Int) : PySem.W.dataLt (D.int i).py (D.int j).py = decide (i < j) := by
  exact PySem.W.dataLt_int i j
@[simp] theorem cmpB_lt (i j : Int) : cmpB .lt (.int i) (.int j) = some (decide (i < j)) := by
  show (if ordOk (.int i) (.int j) = true then some (PySem.W.dataLt (D.int i).py (D.int j).py) else none) = _
  rw [if_pos (ord_int i j), dl_int]
@[simp] theorem cmpB_gt (i j : Int) : cmpB .gt (.int i) (.int j) = some (decide (j < i)) := by
  show (if ordOk (.int i) (.int j) = true then some (PySem.W.dataLt (D.int j).py (D.int i).py) else none) = _
  rw [if_pos (ord_int i j), dl_int]
@[simp] theorem cmpB_le (i j : Int) : cmpB .le (.int i) (.int j) = some (decide (i ≤ j)) := by
  show (if ordOk (.int i) (.int j) = true then some (!PySem.W.dataLt (D.int j).py (D.int i).py) else none) = _
  rw [if_pos (ord_int i j), dl_int]
  by_cases h : j < i
  · rw [decide_eq_true h, decide_eq_false (by omega)]; rfl
  · rw [decide_eq_false h, decide_eq_true (by omega)]; rfl
@[simp] theorem cmpB_ge (i j : Int) : cmpB .ge (.int i) (.int j) = some (decide (j ≤ i)) := by
  show (if ordOk (.int i) (.int j) = true then some (!PySem.W.dataLt (D.int i).py (D.int j).py) else none) = _
  rw [if_pos (ord_int i j), dl_int]
  by_cases h : i < j
  · rw [decide_eq_true h, decide_eq_false (by omega)]; rfl
  · rw [decide_eq_false h, decide_eq_true (by omega)]; rfl
theorem eqv_int (i j : Int) : PyData.eqv (D.int i).py (D.int j).py = decide (i = j) := by
  first | rfl | (simp [D.py, PyData.eqv])
theorem eqD_pl {d e : D} (h1 : D.pl PL d = true) (h2 : D.pl PL e = true) : eqD d e = some (PyData.eqv d.py e.py) := by
  unfold eqD
  rw [h1, h2]
  rfl
@[simp] theorem cmpB_eq (i j : Int) : cmpB .eq (.int i) (.int j) = some (decide (i = j)) := by
  show eqD (.int i) (.int j) = _
  rw [eqD_pl rfl rfl, eqv_int]
@[simp] theorem cmpB_ne (i j : Int) : cmpB .ne (.int i) (.int j) = some (!decide (i = j)) := by
  show (eqD (.int i) (.int j)).map (fun b => !b) = _
  rw [eqD_pl rfl rfl, eqv_int]
  rfl
@[simp] theorem cmpD_B (o : COp) (d e : D) : cmpD o d e = (cmpB o d e).map D.bl := (rfl)
@[simp] theorem bin_add (i j : Int) : binD .add (.int i) (.int j) = some (.int (i + j)) := (rfl)
@[simp] theorem bin_sub (i j : Int) : binD .sub (.int i) (.int j) = some (.int (i - j)) := (rfl)
/-- a comprehension whose items need nothing of the pot -/
theorem lcRun_pure {f : D → Pt → Option (Option D × Pt)} {g : D → Option D} {P : Pt} : ∀ {xs : List D}, (∀ x ∈ xs, f x P = some (g x, P)) → lcRun f xs P = some (xs.filterMap g, P)
  | [], _ => rfl
  | x :: xs, h => by
    rw [lcRun, h x List.mem_cons_self, Option.bind_some]
    dsimp only
    rw [lcRun_pure (xs := xs) fun y hy => h y (List.mem_cons_of_mem _ hy)]
    cases hg : g x <;> simp [hg]
theorem lcRun_map {f : D → Pt → Option (Option D × Pt)} {g : D → D} {P : Pt} {xs : List D} (h : ∀ x ∈ xs, f x P = some (some (g x), P)) : lcRun f xs P = some (xs.map g, P) := by
  rw [lcRun_pure (g := fun x => some (g x)) h]
  simp
theorem lcRun_mapm {α : Type} {f : D → Pt → Option (Option D × Pt)} {h : α → D} {g : α → D} {P : Pt} {xs : List α} (k : ∀ x ∈ xs, f (h x) P = some (some (g x), P)) : lcRun f (xs.map h) P = some (xs.map g, P) := by
  induction xs with
  | nil => rfl
  | cons x xs ih =>
    rw [List.map_cons, lcRun, k x List.mem_cons_self, Option.bind_some]
    dsimp only
    rw [ih fun y hy => k y (List.mem_cons_of_mem _ hy)]
    rfl
theorem blsOf_mapf {α : Type} (f : α → Bool) (xs : List α) : blsOf (xs.map fun x => D.bl (f x)) = some (xs.map f) := by
  have e : (xs.map fun x => D.bl (f x)) = (xs.map f).map D.bl := by rw [List.map_map]; rfl
  rw [e, blsOf_map]
theorem intsOf_mapf {α : Type} (f : α → Int) (xs : List α) : intsOf (xs.map fun x => D.int (f x)) = some (xs.map f) := by
  have e : (xs.map fun x => D.int (f x)) = (xs.map f).map D.int := by rw [List.map_map]; rfl
  rw [e, intsOf_map]
theorem allF_mapf {α : Type} (f : α → Bool) (xs : List α) : allF [.lst (xs.map fun x => D.bl (f x))] = some (.bl (xs.all f)) := by
  show (blsOf _).map _ = _
  rw [blsOf_mapf]
  simp
/-- a for whose state is known at each turn -/
theorem forRun_inv {t : T} {f : St' → Option Fl} : ∀ {xs : List D} {S : St'} (I : Nat → St' → Prop), I 0 S → (∀ i x S, xs[i]? = some x → I i S → ∃ env S', bindT t x S.env = some env ∧ (f ⟨env, S.pot⟩ = some (.nx S') ∨ f ⟨env, S.pot⟩ = some (.ct S')) ∧ I (i + 1) S') → ∃ S', forRun t f xs S = some (.nx S') ∧ I xs.length S'
  | [], S, I, h0, _ => ⟨S, rfl, h0⟩
  | x :: xs, S, I, h0, hs => by
    obtain ⟨env, S1, e1, e2, h1⟩ := hs 0 x S rfl h0
    obtain ⟨S2, e3, h2⟩ := forRun_inv (fun i => I (i + 1)) h1 fun i y S3 hy hi => hs (i + 1) y S3 hy hi
    refine ⟨S2, ?_, h2⟩
    rw [forRun, e1, Option.bind_some]
    rcases e2 with e2 | e2
    · rw [e2, Option.bind_some]
      exact e3
    · rw [e2, Option.bind_some]
      exact e3
/-- .. the state itself -/
theorem forRun_st {t : T} {f : St' → Option Fl} {xs : List D} (s : Nat → St') (hs : ∀ i x, xs[i]? = some x → ∃ env, bindT t x (s i).env = some env ∧ f ⟨env, (s i).pot⟩ = some (.nx (s (i + 1)))) : forRun t f xs (s 0) = some (.nx (s xs.length)) := by
  obtain ⟨S', e, h⟩ := forRun_inv (S := s 0) (fun i S => S = s i) rfl fun i x S hx hi => by
    obtain ⟨env, e1, e2⟩ := hs i x hx
    subst hi
    exact ⟨env, _, e1, .inl e2, rfl⟩
  rw [e, h]
end Ev

set_option Elab.async false
set_option linter.all false
set_option maxRecDepth 100000
set_option maxHeartbeats 4000000
/-! Ev21: more of plain data: numbers. -/
namespace Ev
open PySem PySem.Spec PyProof.Rows L2
theorem bin_mulL {i j : Int} (h : small i = true) : binD .mul (.int i) (.int j) = some (.int (i * j)) := by
  show (if (small i || small j) = true then some (D.int (i * j)) else none) = _
  rw [h]
  rfl
theorem bin_mulR {i j : Int} (h : small j = true) : binD .mul (.int i) (.int j) = some (.int (i * j)) := by
  show (if (small i || small j) = true then some (D.int (i * j)) else none) = _
  rw [h, Bool.or_true]
  rfl
theorem bin_fdiv {i j : Int} (h : 0 < j) (h2 : j < 1073741824) : binD .fdiv (.int i) (.int j) = some (.int (i / j)) := by
  show (if 0 < j ∧ j < fdO then some (D.int (i / j)) else none) = _
  rw [fdO_eq, if_pos ⟨h, h2⟩]
theorem bin_mod {i j : Int} (h : 0 < j) : binD .mod (.int i) (.int j) = some (.int (i % j)) := by
  show (if 0 < j then some (D.int (i % j)) else none) = _
  rw [if_pos h]
theorem small_of {i : Int} (h1 : -1000000000000000 ≤ i) (h2 : i ≤ 1000000000000000) : small i = true := by
  unfold small
  rw [smO_eq]
  rw [Bool.and_eq_true]
  exact ⟨decide_eq_true (by omega), decide_eq_true (by omega)⟩
theorem plL_ints (k : Nat) : ∀ ns : List Int, D.plL k (ns.map D.int) = true
  | [] => by cases k <;> rfl
  | n :: ns => by
    have h : (D.pl k (.int n) && D.plL k (ns.map D.int)) = true := by
      rw [plL_ints k ns, Bool.and_true]
      cases k <;> rfl
    cases k <;> exact h
theorem alike_ints (ns : List Int) : allAlike (ns.map D.int) = true := by
  unfold allAlike
  rw [plL_ints, Bool.true_and, List.all_eq_true]
  intro d hd
  obtain ⟨i, _, rfl⟩ := List.mem_map.mp hd
  rw [Bool.and_eq_true]
  refine ⟨rfl, List.all_eq_true.mpr fun e he => ?_⟩
  obtain ⟨j, _, rfl⟩ := List.mem_map.mp he
  rfl
theorem fold_max : ∀ (ns : List Int) (m : Int), (ns.map D.int).foldl (fun a y => if gtD y a then y else a) (.int m) = .int (ns.foldl max m)
  | [], m => rfl
  | n :: ns, m => by
    rw [List.map_cons, List.foldl_cons, List.foldl_cons]
    have e : (if gtD (.int n) (.int m) = true then D.int n else D.int m) = D.int (max m n) := by
      have g : gtD (.int n) (.int m) = decide (m < n) := dl_int m n
      rw [g]
      by_cases h : m < n
      · rw [if_pos (decide_eq_true h), Int.max_eq_right (by omega)]
      · rw [if_neg (by rw [decide_eq_false h]; decide), Int.max_eq_left (by omega)]
    rw [e]
    exact fold_max ns (max m n)
theorem fold_min : ∀ (ns : List Int) (m : Int), (ns.map D.int).foldl (fun a y => if lessD y a then y else a) (.int m) = .int (ns.foldl min m)
  | [], m => rfl
  | n :: ns, m => by
    rw [List.map_cons, List.foldl_cons, List.foldl_cons]
    have e : (if lessD (.int n) (.int m) = true then D.int n else D.int m) = D.int (min m n) := by
      have g : lessD (.int n) (.int m) = decide (n < m) := dl_int n m
      rw [g]
      by_cases h : n < m
      · rw [if_pos (decide_eq_true h), Int.min_eq_right (by omega)]
      · rw [if_neg (by rw [decide_eq_false h]; decide), Int.min_eq_left (by omega)]
    rw [e]
    exact fold_min ns (min m n)
theorem best_max (m : Int) (ns : List Int) : bestL gtD ((m :: ns).map D.int) = some (.int (ns.foldl max m)) := by
  show (if allAlike ((m :: ns).map D.int) = true then some ((ns.map D.int).foldl (fun a y => if gtD y a then y else a) (.int m)) else none) = _
  rw [if_pos (alike_ints _), fold_max]
theorem best_min (m : Int) (ns : List Int) : bestL lessD ((m :: ns).map D.int) = some (.int (ns.foldl min m)) := by
  show (if allAlike ((m :: ns).map D.int) = true then some ((ns.map D.int).foldl (fun a y => if lessD y a then y else a) (.int m)) else none) = _
  rw [if_pos (alike_ints _), fold_min]
@[simp] theorem max2 (i j : Int) : bestF gtD [.int i, .int j] = some (.int (max i j)) := best_max i [j]
@[simp] theorem min2 (i j : Int) : bestF lessD [.int i, .int j] = some (.int (min i j)) := best_min i [j]
@[simp] theorem min3 (i j k : Int) : bestF lessD [.int i, .int j, .int k] = some (.int (min (min i j) k)) := best_min i [j, k]
@[simp] theorem sum_tup (ns : List Int) : sumF [.tup (ns.map .int)] = some (.int ns.sum) := by
  show (intsOf _).map _ = _
  rw [intsOf_map]
  rfl
@[simp] theorem sum_lst (ns : List Int) : sumF [.lst (ns.map .int)] = some (.int ns.sum) := by
  show (intsOf _).map _ = _
  rw [intsOf_map]
  rfl
theorem fold_max_ge : ∀ (ns : List Int) (m : Int), m ≤ ns.foldl max m ∧ ∀ x ∈ ns, x ≤ ns.foldl max m
  | [], m => ⟨Int.le_refl _, fun _ h => nomatch h⟩
  | n :: ns, m => by
    obtain ⟨h1, h2⟩ := fold_max_ge ns (max m n)
    rw [List.foldl_cons]
    refine ⟨by omega, fun x hx => ?_⟩
    rcases List.mem_cons.mp hx with rfl | hx
    · omega
    · exact h2 x hx
theorem fold_max_mem : ∀ (ns : List Int) (m : Int), ns.foldl max m = m ∨ ns.foldl max m ∈ ns
  | [], m => .inl rfl
  | n :: ns, m => by
    rw [List.foldl_cons]
    rcases fold_max_mem ns (max m n) with h | h
    · rw [h]
      rcases Int.le_total m n with q | q
      · rw [Int.max_eq_right q]
        exact .inr (List.mem_cons_self ..)
      · rw [Int.max_eq_left q]
        exact .inl rfl
    · exact .inr (List.mem_cons_of_mem _ h)
theorem forRun_st' {t : T} {f : St' → Option Fl} {xs : List D} {S : St'} (s : Nat → St') (h0 : S = s 0) (hs : ∀ i x, xs[i]? = some x → ∃ env, bindT t x (s i).env = some env ∧ f ⟨env, (s i).pot⟩ = some (.nx (s (i + 1)))) : forRun t f xs S = some (.nx (s xs.length)) := by
  rw [h0]
  exact forRun_st s hs
theorem idx_nat {xs : List D} {k : Nat} {d : D} (h : xs[k]? = some d) : idxD (.tup xs) (.int k) = some d ∧ idxD (.lst xs) (.int k) = some d ∧ idxD (.xt xs) (.int k) = some d := by
  have hk := (List.getElem?_eq_some_iff.mp h).1
  have e : atI xs (k : Int) = some d := by
    unfold atI ixN
    have h1 : (0 : Int) ≤ k := Int.natCast_nonneg _
    have h2 : (k : Int) < xs.length := by omega
    simp [h1, h2, h]
  exact ⟨e, e, e⟩
@[simp] theorem idx_0 {x : D} {xs : List D} : idxD (.tup (x :: xs)) (.int 0) = some x := (idx_nat (k := 0) rfl).1
@[simp] theorem idx_1 {x y : D} {xs : List D} : idxD (.tup (x :: y :: xs)) (.int 1) = some y := (idx_nat (k := 1) rfl).1
@[simp] theorem idx_2 {x y z : D} {xs : List D} : idxD (.tup (x :: y :: z :: xs)) (.int 2) = some z := (idx_nat (k := 2) rfl).1
end Ev

set_option Elab.async false
set_option linter.all false
set_option maxRecDepth 100000
set_option maxHeartbeats 4000000
/-! Ev22: typed lists, comprehensions over them, what a run ends with. -/
namespace Ev
open PySem PySem.Spec PyProof.Rows L2

/-! ### comprehensions over lists of any kind -/
def lcA {α : Type} (f : α → Pt → Option (Option D × Pt)) : List α → Pt → Option (List D × Pt)
  | [], P => some ([], P)
  | x :: xs, P => (f x P).bind fun (o, P1) => (lcA f xs P1).map fun (r, P2) => (match o with
    | some d => d :: r
    | none => r, P2)
theorem lcRun_mapA {α : Type} {h : α → D} {f : D → Pt → Option (Option D × Pt)} : ∀ {xs : List α} {P : Pt}, lcRun f (xs.map h) P = lcA (fun a => f (h a)) xs P
  | [], P => rfl
  | x :: xs, P => by
    rw [List.map_cons, lcRun, lcA]
    congr 1
    funext ⟨o, P1⟩
    dsimp only
    rw [lcRun_mapA]
    all_goals rfl
theorem lcA_congr {α : Type} {f g : α → Pt → Option (Option D × Pt)} : ∀ {xs : List α} {P : Pt}, (∀ a, a ∈ xs → ∀ P, f a P = g a P) → lcA f xs P = lcA g xs P
  | [], P, _ => rfl
  | x :: xs, P, h => by
    rw [lcA, lcA, h x List.mem_cons_self]
    congr 1
    funext ⟨o, P1⟩
    dsimp only
    rw [lcA_congr fun a ha => h a (List.mem_cons_of_mem _ ha)]
theorem lcA_pure {α : Type} {g : α → D} : ∀ {xs : List α} {P : Pt}, lcA (fun a P => some (some (g a), P)) xs P = some (xs.map g, P)
  | [], P => rfl
  | x :: xs, P => by
    rw [lcA, Option.bind_some]
    dsimp only
    rw [lcA_pure]
    rfl
theorem lcA_if {α : Type} {c : α → Bool} {g : α → D} : ∀ {xs : List α} {P : Pt}, lcA (fun a P => if c a = true then some (some (g a), P) else some (none, P)) xs P = some ((xs.filter c).map g, P)
  | [], P => rfl
  | x :: xs, P => by
    rw [lcA]
    by_cases h : c x = true
    · rw [if_pos h, Option.bind_some]
      dsimp only
      rw [lcA_if, List.filter_cons_of_pos h]
      rfl
    · rw [if_neg h, Option.bind_some]
      dsimp only
      rw [lcA_if, List.filter_cons_of_neg h]
      rfl
/-- a comprehension whose items are told one by one -/
theorem lcA_is {α : Type} {f : α → Pt → Option (Option D × Pt)} {g : α → D} {xs : List α} {P : Pt} (h : ∀ a, a ∈ xs → ∀ P, f a P = some (some (g a), P)) : lcA f xs P = some (xs.map g, P) := by
  rw [lcA_congr (g := fun a P => some (some (g a), P)) h, lcA_pure]
theorem lcA_isf {α : Type} {f : α → Pt → Option (Option D × Pt)} {c : α → Bool} {g : α → D} {xs : List α} {P : Pt} (h : ∀ a, a ∈ xs → ∀ P, f a P = if c a = true then some (some (g a), P) else some (none, P)) : lcA f xs P = some ((xs.filter c).map g, P) := by
  rw [lcA_congr h, lcA_if]
/-- .. that changes the pot -/
theorem lcA_inv {α : Type} {f : α → Pt → Option (Option D × Pt)} (R : D → Prop) : ∀ {xs : List α} {P : Pt} (I : Nat → Pt → Prop), I 0 P → (∀ j a P, xs[j]? = some a → I j P → ∃ d P', f a P = some (some d, P') ∧ R d ∧ I (j + 1) P') → ∃ ds P', lcA f xs P = some (ds, P') ∧ ds.length = xs.length ∧ (∀ d ∈ ds, R d) ∧ I xs.length P'
  | [], P, I, h, _ => ⟨[], P, rfl, rfl, fun _ h => (nomatch h), h⟩
  | x :: xs, P, I, h, s => by
    obtain ⟨d, P1, e1, r, h1⟩ := s 0 x P rfl h
    obtain ⟨ds, P2, e2, l, rs, h2⟩ := lcA_inv R (xs := xs) (fun i => I (i + 1)) h1 fun j a P ha hi => s (j + 1) a P ha hi
    refine ⟨d :: ds, P2, ?_, by simp [l], fun y hy => ?_, h2⟩
    · rw [lcA, e1, Option.bind_some]
      dsimp only
      rw [e2]
      rfl
    · rcases List.mem_cons.mp hy with rfl | hy
      · exact r
      · exact rs y hy
/-- the comprehension itself, over a typed list -/
def lcGo {α : Type} (t : T) (env : List SV) (fc : St' → Option (Bool × Pt)) (fe : St' → Option (Res × St')) (h : α → D) (a : α) (P : Pt) : Option (Option D × Pt) := lcBody t env fc fe (h a) P
section
variable {Φ : Str → Option Fn} {n : Nat} {bo fz : Bool} {S S1 : St'}
theorem ev_lcA {α : Type} {elt : E} {t : T} {it : Itr} {c : Eo} {own : List Nat} {h : α → D} {xs : List α} (h1 : evi Φ it true fz S = some (xs.map h, S1)) (h2 : xs.length ≤ 1000000) (h3 : own.all (fun i => notOwn S1.env i) = true) :
    ev Φ (.lc elt t it c own) bo fz S = (lcA (lcGo t (wipeE S1.env own) (evc Φ c) (ev Φ elt false false) h) xs S1.pot).map fun p => (.val (.lst p.1), ⟨S1.env, p.2⟩) := by
  rw [ev_lc, h1, Option.bind_some]
  dsimp only
  rw [if_pos ⟨by rw [List.length_map]; exact le_lim h2, h3⟩, lcRun_mapA]
  rfl
theorem lcGo_eq {α : Type} {t : T} {env : List SV} {fc : St' → Option (Bool × Pt)} {fe : St' → Option (Res × St')} {h : α → D} {a : α} {P : Pt} : lcGo t env fc fe h a P = (bindT t (h a) env).bind fun env => (fc ⟨env, P⟩).bind fun (k, P) =>
        if k then (fe ⟨env, P⟩).bind fun (r, S1) => (match r with
          | .val d => some (some d, S1.pot)
          | .exc _ _ => none) else some (none, P) := (rfl)
/-- all items pure -/
theorem ev_lc_is {α : Type} {elt : E} {t : T} {it : Itr} {c : Eo} {own : List Nat} {h : α → D} {xs : List α} (g : α → D) (h1 : evi Φ it true fz S = some (xs.map h, S1)) (h2 : xs.length ≤ 1000000) (h3 : own.all (fun i => notOwn S1.env i) = true)
    (h4 : ∀ a, a ∈ xs → ∀ P, lcGo t (wipeE S1.env own) (evc Φ c) (ev Φ elt false false) h a P = some (some (g a), P)) :
    ev Φ (.lc elt t it c own) bo fz S = some (.val (.lst (xs.map g)), S1) := by
  rw [ev_lcA h1 h2 h3, lcA_is h4]
  rfl
theorem ev_lc_isf {α : Type} {elt : E} {t : T} {it : Itr} {c : Eo} {own : List Nat} {h : α → D} {xs : List α} (k : α → Bool) (g : α → D) (h1 : evi Φ it true fz S = some (xs.map h, S1)) (h2 : xs.length ≤ 1000000) (h3 : own.all (fun i => notOwn S1.env i) = true)
    (h4 : ∀ a, a ∈ xs → ∀ P, lcGo t (wipeE S1.env own) (evc Φ c) (ev Φ elt false false) h a P = if k a = true then some (some (g a), P) else some (none, P)) :
    ev Φ (.lc elt t it c own) bo fz S = some (.val (.lst ((xs.filter k).map g)), S1) := by
  rw [ev_lcA h1 h2 h3, lcA_isf h4]
  rfl
theorem ev_lc_s {α : Type} {elt : E} {t : T} {it : Itr} {c : Eo} {own : List Nat} {h : α → D} {xs : List α} (g : α → D) (h1 : evi Φ it true fz S = some (xs.map h, S)) (h2 : xs.length ≤ 1000000) (h3 : own.all (fun i => notOwn S.env i) = true)
    (h4 : ∀ a, a ∈ xs → ∀ P, lcGo t (wipeE S.env own) (evc Φ c) (ev Φ elt false false) h a P = some (some (g a), P)) :
    ev Φ (.lc elt t it c own) bo fz S = some (.val (.lst (xs.map g)), S) := ev_lc_is g h1 h2 h3 h4
theorem ev_lc_sf {α : Type} {elt : E} {t : T} {it : Itr} {c : Eo} {own : List Nat} {h : α → D} {xs : List α} (k : α → Bool) (g : α → D) (h1 : evi Φ it true fz S = some (xs.map h, S)) (h2 : xs.length ≤ 1000000) (h3 : own.all (fun i => notOwn S.env i) = true)
    (h4 : ∀ a, a ∈ xs → ∀ P, lcGo t (wipeE S.env own) (evc Φ c) (ev Φ elt false false) h a P = if k a = true then some (some (g a), P) else some (none, P)) :
    ev Φ (.lc elt t it c own) bo fz S = some (.val (.lst ((xs.filter k).map g)), S) := ev_lc_isf k g h1 h2 h3 h4
/-- items that change the pot -/
theorem ev_lc_inv {α : Type} {elt : E} {t : T} {it : Itr} {c : Eo} {own : List Nat} {h : α → D} {xs : List α} (I : Nat → Pt → Prop) (R : D → Prop) (h1 : evi Φ it true fz S = some (xs.map h, S1)) (h2 : xs.length ≤ 1000000) (h3 : own.all (fun i => notOwn S1.env i) = true) (h0 : I 0 S1.pot)
    (h4 : ∀ j a P, xs[j]? = some a → I j P → ∃ d P', lcGo t (wipeE S1.env own) (evc Φ c) (ev Φ elt false false) h a P = some (some d, P') ∧ R d ∧ I (j + 1) P') :
    ∃ ds P', ev Φ (.lc elt t it c own) bo fz S = some (.val (.lst ds), ⟨S1.env, P'⟩) ∧ ds.length = xs.length ∧ (∀ d ∈ ds, R d) ∧ I xs.length P' := by
  obtain ⟨ds, P', e, l, r, i⟩ := lcA_inv R I h0 h4
  refine ⟨ds, P', ?_, l, r, i⟩
  rw [ev_lcA h1 h2 h3, e]
  rfl
end

/-! ### lists that the evaluator makes, as typed ones -/
theorem rngL_map : ∀ (k : Nat) (lo : Int), rngL lo k = (List.range k).map fun (i : Nat) => D.int (lo + i)
  | 0, _ => rfl
  | k + 1, lo => by
    rw [rngL, rngL_map k (lo + 1), List.range_succ_eq_map, List.map_cons, List.map_map]
    congr 1
    · show D.int lo = D.int (lo + ((0 : Nat) : Int))
      rw [Int.natCast_zero, Int.add_zero]
    · congr 1
      funext i
      show D.int (lo + 1 + (i : Int)) = D.int (lo + ((i + 1 : Nat) : Int))
      congr 1
      omega
theorem rngD_ok {lo hi : Int} (h1 : -1000000000000 ≤ lo) (h2 : lo ≤ 1000000000000) (h3 : -1000000000000 ≤ hi) (h4 : hi ≤ 1000000000000) : rngD lo hi = some ((List.range (hi - lo).toNat).map fun (i : Nat) => D.int (lo + i)) := by
  unfold rngD
  rw [if_pos (by have := bigO_eq; omega), rngL_map]
theorem enumL_map {α : Type} {h : α → D} : ∀ (xs : List α) (i : Nat), enumL i (xs.map h) = (xs.zipIdx i).map fun p => D.tup [.int (p.2 : Nat), h p.1]
  | [], _ => rfl
  | x :: xs, i => by
    rw [List.map_cons, enumL, List.zipIdx_cons, List.map_cons, show (i : Int) + 1 = ((i + 1 : Nat) : Int) by omega, enumL_map xs (i + 1)]
theorem enumL_map0 {α : Type} {h : α → D} (xs : List α) : enumL 0 (xs.map h) = xs.zipIdx.map fun p => D.tup [.int (p.2 : Nat), h p.1] := enumL_map xs 0
theorem zipL_map {α β : Type} {h : α → D} {k : β → D} : ∀ (xs : List α) (ys : List β), zipL (xs.map h) (ys.map k) = (xs.zip ys).map fun p => D.tup [h p.1, k p.2]
  | [], _ => by simp [zipL]
  | _ :: _, [] => by simp [zipL]
  | x :: xs, y :: ys => by rw [List.map_cons, List.map_cons, zipL, zipL_map, List.zip_cons_cons, List.map_cons]
theorem mem_zipIdx0 {α : Type} {xs : List α} {p : α × Nat} (h : p ∈ xs.zipIdx) : xs[p.2]? = some p.1 := List.mem_zipIdx_iff_getElem?.mp h

/-! ### what is there, and so -/
def Wp {α : Type} (o : Option α) (K : α → Prop) : Prop := ∃ a, o = some a ∧ K a
theorem Wp.mono {α : Type} {o : Option α} {K K' : α → Prop} (h : Wp o K) (k : ∀ a, K a → K' a) : Wp o K' := let ⟨a, e, q⟩ := h; ⟨a, e, k a q⟩
@[simp] theorem wp_some {α : Type} {a : α} {K : α → Prop} : Wp (some a) K ↔ K a := ⟨fun ⟨_, e, q⟩ => (by cases e; exact q), fun q => ⟨a, rfl, q⟩⟩
@[simp] theorem wp_none {α : Type} {K : α → Prop} : Wp none K ↔ False := ⟨fun ⟨_, e, _⟩ => (nomatch e), False.elim⟩
theorem wp_bind {α β : Type} {o : Option α} {f : α → Option β} {K : β → Prop} : Wp (o.bind f) K ↔ Wp o fun a => Wp (f a) K := by
  cases o with
  | none => simp
  | some a => simp
theorem wp_map {α β : Type} {o : Option α} {f : α → β} {K : β → Prop} : Wp (o.map f) K ↔ Wp o fun a => K (f a) := by
  cases o with
  | none => simp
  | some a => simp
/-- what a turn may end with: on, out, back -/
def Turn (J B : St' → Prop) (R : D → Pt → Prop) : Fl → Prop
  | .nx S => J S
  | .ct S => J S
  | .brk S => B S
  | .ret d P => R d P
  | .exc _ _ _ => False
/-- .. what a loop may -/
def Done (J : St' → Prop) (R : D → Pt → Prop) : Fl → Prop
  | .nx S => J S
  | .ret d P => R d P
  | _ => False
@[simp] theorem turn_nx {J B : St' → Prop} {R : D → Pt → Prop} {S : St'} : Turn J B R (.nx S) ↔ J S := Iff.rfl
@[simp] theorem turn_ct {J B : St' → Prop} {R : D → Pt → Prop} {S : St'} : Turn J B R (.ct S) ↔ J S := Iff.rfl
@[simp] theorem turn_brk {J B : St' → Prop} {R : D → Pt → Prop} {S : St'} : Turn J B R (.brk S) ↔ B S := Iff.rfl
@[simp] theorem turn_ret {J B : St' → Prop} {R : D → Pt → Prop} {d : D} {P : Pt} : Turn J B R (.ret d P) ↔ R d P := Iff.rfl
@[simp] theorem done_nx {J : St' → Prop} {R : D → Pt → Prop} {S : St'} : Done J R (.nx S) ↔ J S := Iff.rfl
@[simp] theorem done_ret {J : St' → Prop} {R : D → Pt → Prop} {d : D} {P : Pt} : Done J R (.ret d P) ↔ R d P := Iff.rfl
/-- a for over a typed list, by what holds ahead of turn i -/
theorem for_wp {α : Type} {h : α → D} {t : T} {f : St' → Option Fl} {E : St' → Prop} {R : D → Pt → Prop} : ∀ {xs : List α} {S : St'} (I : Nat → St' → Prop), I 0 S → (∀ i a S, xs[i]? = some a → I i S → Wp (bindT t (h a) S.env) fun env => Wp (f ⟨env, S.pot⟩) (Turn (I (i + 1)) E R)) → (∀ S, I xs.length S → E S) → Wp (forRun t f (xs.map h) S) (Done E R)
  | [], S, I, h0, _, hE => ⟨_, rfl, hE S h0⟩
  | x :: xs, S, I, h0, hs, hE => by
    obtain ⟨env, e1, fl, e2, k⟩ := hs 0 x S rfl h0
    rw [List.map_cons, forRun, e1, Option.bind_some, e2, Option.bind_some]
    cases fl with
    | nx S1 => exact for_wp (fun i => I (i + 1)) k (fun i a S2 hx hi => hs (i + 1) a S2 hx hi) hE
    | ct S1 => exact for_wp (fun i => I (i + 1)) k (fun i a S2 hx hi => hs (i + 1) a S2 hx hi) hE
    | brk S1 => exact ⟨_, rfl, k⟩
    | ret d P => exact ⟨_, rfl, k⟩
    | exc _ _ _ => exact k.elim
/-- a for that goes through -/
theorem for_nx {α : Type} {h : α → D} {t : T} {f : St' → Option Fl} {xs : List α} {S : St'} (I : Nat → St' → Prop) (h0 : I 0 S) (hs : ∀ i a S, xs[i]? = some a → I i S → Wp (bindT t (h a) S.env) fun env => Wp (f ⟨env, S.pot⟩) (Turn (I (i + 1)) (fun _ => False) fun _ _ => False)) : ∃ S', forRun t f (xs.map h) S = some (.nx S') ∧ I xs.length S' := by
  obtain ⟨fl, e, k⟩ := for_wp (E := fun S => I xs.length S) (R := fun _ _ => False) I h0 (fun i a S hx hi => (hs i a S hx hi).mono fun env q => q.mono fun fl q => by
    cases fl with
    | brk _ => exact q.elim
    | _ => exact q) fun S q => q
  cases fl with
  | nx S' => exact ⟨S', e, k⟩
  | ret _ _ => exact k.elim
  | _ => exact (show False from k).elim

/-! ### a def's end -/
theorem fn_wp {Φ : Str → Option Fn} {n N m : Nat} {ss : Ss} {ds : List D} {P : Pt} {K : Res × Pt → Prop} (hl : ds.length = m) (h : Wp (exSs Φ n ss ⟨ds.map SV.val ++ List.replicate (N - m) SV.un, P⟩) (Done (fun S => K (.val .non, S.pot)) fun d P => K (.val d, P))) : Wp (fnF Φ n N m ss ds P) K := by
  obtain ⟨fl, e, k⟩ := h
  unfold fnF
  rw [if_pos hl, e]
  cases fl with
  | nx S => exact ⟨_, rfl, k⟩
  | ret d P => exact ⟨_, rfl, k⟩
  | _ => exact (show False from k).elim
theorem wp_seq {Φ : Str → Option Fn} {n : Nat} {s : Ev.S} {r : Ss} {S : St'} {J : St' → Prop} {R : D → Pt → Prop} (h : Wp (exS Φ n s S) (Done (fun S1 => Wp (exSs Φ n r S1) (Done J R)) R)) : Wp (exSs Φ n (.cons s r) S) (Done J R) := by
  obtain ⟨fl, e, k⟩ := h
  rw [exSs_cons, e, Option.bind_some]
  cases fl with
  | nx S => exact k
  | ret d P => exact ⟨_, rfl, k⟩
  | _ => exact (show False from k).elim

theorem fn_eq {Φ : Str → Option Fn} {n N m : Nat} {ss : Ss} {ds : List D} {P : Pt} {r : Res × Pt} (hl : ds.length = m) (h : Wp (exSs Φ n ss ⟨ds.map SV.val ++ List.replicate (N - m) SV.un, P⟩) (Done (fun S => (Res.val .non, S.pot) = r) fun d P => (Res.val d, P) = r)) : fnF Φ n N m ss ds P = some r := by
  obtain ⟨a, e, k⟩ := fn_wp (K := fun a => a = r) hl h
  rw [e, k]
theorem wp_eq {α : Type} {o : Option α} {r : α} : Wp o (fun a => a = r) ↔ o = some r := ⟨fun ⟨a, e, k⟩ => by rw [e, k], fun e => ⟨r, e, rfl⟩⟩
/-- a for, then the rest -/
theorem wp_for {α β : Type} {h : α → D} {t : T} {f : St' → Option Fl} {xs : List α} {S : St'} {k : Fl → Option β} {K : β → Prop} (I : Nat → St' → Prop) (E : St' → Prop) (R : D → Pt → Prop) (h0 : I 0 S) (hs : ∀ i a S, xs[i]? = some a → I i S → Wp (bindT t (h a) S.env) fun env => Wp (f ⟨env, S.pot⟩) (Turn (I (i + 1)) E R)) (hE : ∀ S, I xs.length S → E S)
    (k1 : ∀ S, E S → Wp (k (.nx S)) K) (k2 : ∀ d P, R d P → Wp (k (.ret d P)) K) : Wp ((forRun t f (xs.map h) S).bind k) K := by
  obtain ⟨fl, e, q⟩ := for_wp I h0 hs hE
  rw [e, Option.bind_some]
  cases fl with
  | nx S => exact k1 S q
  | ret d P => exact k2 d P q
  | _ => exact (show False from q).elim
theorem wp_for0 {α β : Type} {h : α → D} {t : T} {f : St' → Option Fl} {xs : List α} {S : St'} {k : Fl → Option β} {K : β → Prop} (I : Nat → St' → Prop) (h0 : I 0 S) (hs : ∀ i a S, xs[i]? = some a → I i S → Wp (bindT t (h a) S.env) fun env => Wp (f ⟨env, S.pot⟩) (Turn (I (i + 1)) (fun _ => False) fun _ _ => False))
    (k1 : ∀ S, I xs.length S → Wp (k (.nx S)) K) : Wp ((forRun t f (xs.map h) S).bind k) K := by
  obtain ⟨S', e, q⟩ := for_nx I h0 hs
  rw [e, Option.bind_some]
  exact k1 S' q

/-! ### more for simp -/
@[simp] theorem all_lst {α : Type} {f : α → Bool} {xs : List α} : allF [.lst (xs.map fun x => D.bl (f x))] = some (.bl (xs.all f)) := allF_mapf f xs
@[simp] theorem any_lst {α : Type} {f : α → Bool} {xs : List α} : anyF [.lst (xs.map fun x => D.bl (f x))] = some (.bl (xs.any f)) := by
  show (blsOf _).map _ = _
  rw [blsOf_mapf]
  simp
@[simp] theorem sum_lstf {α : Type} {f : α → Int} {xs : List α} : sumF [.lst (xs.map fun x => D.int (f x))] = some (.int (xs.map f).sum) := by
  show (intsOf _).map _ = _
  rw [intsOf_mapf]
  rfl
@[simp] theorem tuple_lst {xs : List D} : tupleF [.lst xs] = some (.tup xs) := (rfl)
@[simp] theorem tuple_tup {xs : List D} : tupleF [.tup xs] = some (.tup xs) := (rfl)
@[simp] theorem tupx_lst {xs : List D} : tupxF [.lst xs] = some (.xt xs) := (rfl)
@[simp] theorem list_tup {xs : List D} : listF [.tup xs] = some (.lst xs) := (rfl)
@[simp] theorem list_lst {xs : List D} : listF [.lst xs] = some (.lst xs) := (rfl)
@[simp] theorem len_tup {xs : List D} : lenF [.tup xs] = some (.int xs.length) := (rfl)
@[simp] theorem len_lst {xs : List D} : lenF [.lst xs] = some (.int xs.length) := (rfl)
@[simp] theorem len_xt {xs : List D} : lenF [.xt xs] = some (.int xs.length) := (rfl)
@[simp] theorem seq_tup {xs : List D} : seqOf (.tup xs) = some xs := (rfl)
@[simp] theorem seq_lst {xs : List D} : seqOf (.lst xs) = some xs := (rfl)
@[simp] theorem seq_xt {xs : List D} : seqOf (.xt xs) = some xs := (rfl)
end Ev

set_option Elab.async false
set_option linter.all false
set_option maxRecDepth 100000
set_option maxHeartbeats 4000000
/-! Ev23: comparisons of data. -/
namespace Ev
open PySem PySem.Spec PyProof.Rows L2
mutual
theorem eqv_self : ∀ d : D, PyData.eqv d.py d.py = true
  | .non => by simp [D.py, PyData.eqv]
  | .bl b => by simp [D.py, PyData.eqv]
  | .int i => by simp [D.py, PyData.eqv]
  | .str s => by simp [D.py, PyData.eqv]
  | .tup xs => by simp [D.py, PyData.eqv, eqvAll_self xs]
  | .lst xs => by simp [D.py, PyData.eqv, eqvAll_self xs]
  | .xt xs => by simp [D.py, PyData.eqv, eqvAll_self xs]
  | .dct _ _ _ => by simp [D.py, PyData.eqv]
  | .set _ => by simp [D.py, PyData.eqv]
  | .rng _ _ => by simp [D.py, PyData.eqv]
  | .pot => by simp [D.py, PyData.eqv]
  | .exc _ _ => by simp [D.py, PyData.eqv]
  | .clo _ _ => by simp [D.py, PyData.eqv]
  | .opq _ => by simp [D.py, PyData.eqv]
theorem eqvAll_self : ∀ xs : List D, PyData.eqvAll (D.pyL xs) (D.pyL xs) = true
  | [] => by simp [D.pyL, PyData.eqvAll]
  | d :: ds => by simp [D.pyL, PyData.eqvAll, eqv_self d, eqvAll_self ds]
end
theorem eqD_same {d : D} (h : D.pl PL d = true) : eqD d d = some true := by
  rw [eqD_pl h h, eqv_self]
theorem pl_tup {xs : List D} (h : D.plL 19 xs = true) : D.pl PL (.tup xs) = true := by
  show D.pl (19 + 1) (.tup xs) = true
  rw [D.pl]
  exact h
theorem pl_lst {xs : List D} (h : D.plL 19 xs = true) : D.pl PL (.lst xs) = true := by
  show D.pl (19 + 1) (.lst xs) = true
  rw [D.pl]
  exact h
theorem pyL_ints (xs : List Int) : D.pyL (xs.map .int) = xs.map PyData.int := by
  induction xs with
  | nil => simp [D.pyL]
  | cons x xs ih => simp [D.pyL, ih, D.py]
theorem eqv_ints : ∀ xs ys : List Int, PyData.eqvAll (xs.map .int) (ys.map .int) = decide (xs = ys)
  | [], [] => by simp [PyData.eqvAll]
  | [], _ :: _ => by simp [PyData.eqvAll]
  | _ :: _, [] => by simp [PyData.eqvAll]
  | x :: xs, y :: ys => by
    have e : (x == y) = decide (x = y) := by
      by_cases h : x = y <;> simp [h]
    simp [PyData.eqvAll, PyData.eqv, eqv_ints xs ys, Bool.decide_and, e]
/-- tuples of ints -/
theorem eqD_ints (xs ys : List Int) : eqD (.tup (xs.map .int)) (.tup (ys.map .int)) = some (decide (xs = ys)) := by
  rw [eqD_pl (pl_tup (plL_ints _ _)) (pl_tup (plL_ints _ _))]
  simp [D.py, PyData.eqv, pyL_ints, eqv_ints]
theorem eqD_int (i j : Int) : eqD (.int i) (.int j) = some (decide (i = j)) := by
  rw [eqD_pl rfl rfl, eqv_int]
/-- a number against none -/
@[simp] theorem is_non (d : D) : cmpB .is_ d .non = some (isNon d) := by
  show isD d .non = _
  unfold isD
  split <;> simp_all
@[simp] theorem isnot_non (d : D) : cmpB .isnot d .non = some (!isNon d) := by
  show (isD d .non).map (!·) = _
  have := is_non d
  rw [show isD d .non = some (isNon d) from this]
  rfl
theorem cmp_eqD (d e : D) : cmpB .eq d e = eqD d e := (rfl)
theorem cmp_neD (d e : D) : cmpB .ne d e = (eqD d e).map (!·) := (rfl)
theorem eq_same {d : D} (h : D.pl PL d = true) : cmpB .eq d d = some true := by rw [cmp_eqD, eqD_same h]
theorem ne_same {d : D} (h : D.pl PL d = true) : cmpB .ne d d = some false := by
  rw [cmp_neD, eqD_same h]
  rfl
/-- two texts -/
theorem eqD_str {x y : Str} (hx : PyData.strOk x = true) (hy : PyData.strOk y = true) : eqD (.str x) (.str y) = some (x == y) := by
  rw [eqD_pl (d := .str x) (e := .str y) (by show D.pl (19 + 1) (.str x) = true; rw [D.pl]; exact hx) (by show D.pl (19 + 1) (.str y) = true; rw [D.pl]; exact hy)]
  simp [D.py, PyData.eqv]
end Ev

set_option Elab.async false
set_option linter.all false
set_option maxRecDepth 100000
set_option maxHeartbeats 4000000
/-! Ev24: draws from the pot: _law_take, _law_of, one text for all laws. -/
namespace Ev
open PySem PySem.Spec PyProof.Rows L2
def takeSs (A B C E G : Int) : Ss := (.cons (.ife (.cmp .gt (.pget 0 0) (.con (.int 0))) (.cons (.set false 4 (.bin .mod (.bi .int (.cons false (.pget 0 0) .nil)) (.slot 1))) (.cons (.pput 0 0 (.bin .fdiv (.pget 0 0) (.slot 1))) (.cons (.ret (.slot 4)) .nil))) .nil) (.cons (.pput 0 2 (.bin .add (.pget 0 2) (.con (.int 1)))) (.cons (.set false 2 (.idx (.lst (.cons false (.con (.int 2147483647)) (.cons false (.con (.int 2147483629)) (.cons false (.con (.int 2147483587)) (.cons false (.con (.int 2147483579)) (.cons false (.con (.int 2147483563)) .nil)))))) (.bin .mod (.bi .int (.cons false (.pget 0 2) .nil)) (.con (.int 5))))) (.cons (.set false 3 (.bin .mod (.bi .int (.cons false (.bin .pow (.bi .int (.cons false (.bin .add (.bin .add (.pget 0 1) (.bin .mul (.bin .mul (.con (.int A)) (.pget 0 2)) (.pget 0 2))) (.con (.int B))) .nil)) (.con (.int 3))) .nil)) (.slot 2))) (.cons (.set false 3 (.bin .mod (.bi .int (.cons false (.bin .mul (.slot 3) (.bin .add (.bin .mod (.bi .int (.cons false (.slot 3) .nil)) (.con (.int C))) (.bin .mul (.con (.int E)) (.pget 0 2)))) .nil)) (.con (.int 2305843009213693907)))) (.cons (.ret (.bin .mod (.bi .int (.cons false (.bin .fdiv (.slot 3) (.con (.int G))) .nil)) (.slot 1))) .nil))))))
/-- a pot behind so many draws at most -/
structure PotOk (k : Nat) (P : Pt) : Prop where
  a : 0 ≤ P.a
  b : 0 ≤ P.b
  b' : P.b < 2305843009213693952
  c : 0 ≤ P.c
  c' : P.c ≤ k
theorem PotOk.mono {j k : Nat} {P : Pt} (h : PotOk j P) (l : j ≤ k) : PotOk k P := ⟨h.a, h.b, h.b', h.c, by have := h.c'; omega⟩
theorem idx_primes {r : Int} (h0 : 0 ≤ r) (h1 : r < 5) : ∃ p : Int, idxD (.lst [.int 2147483647, .int 2147483629, .int 2147483587, .int 2147483579, .int 2147483563]) (.int r) = some (.int p) ∧ 0 < p ∧ p < 4294967296 := by
  have h : r = 0 ∨ r = 1 ∨ r = 2 ∨ r = 3 ∨ r = 4 := by omega
  rcases h with rfl | rfl | rfl | rfl | rfl
  · exact ⟨_, (idx_nat (k := 0) rfl).2.1, by omega, by omega⟩
  · exact ⟨_, (idx_nat (k := 1) rfl).2.1, by omega, by omega⟩
  · exact ⟨_, (idx_nat (k := 2) rfl).2.1, by omega, by omega⟩
  · exact ⟨_, (idx_nat (k := 3) rfl).2.1, by omega, by omega⟩
  · exact ⟨_, (idx_nat (k := 4) rfl).2.1, by omega, by omega⟩
theorem int_int {i : Int} : intF [.int i] = some (.int i) := (rfl)
theorem int_bl {b : Bool} : intF [.bl b] = some (.int (if b then 1 else 0)) := (rfl)
theorem bin_pow3 {i : Int} (h : small i = true) : binD .pow (.int i) (.int 3) = some (.int (i ^ 3)) := by
  show (if 0 ≤ (3 : Int) ∧ (3 : Int) ≤ 100 ∧ small i = true then some (D.int (i ^ (3 : Int).toNat)) else none) = _
  rw [if_pos ⟨by omega, by omega, h⟩]
  rfl
theorem take_ok {Φ : Str → Option Fn} {n : Nat} {A B C E G : Int} (hA : 0 ≤ A) (hA' : A ≤ 1000000) (hB : 0 ≤ B) (hB' : B ≤ 1000000) (hC : 0 < C) (hE : 0 ≤ E) (hE' : E ≤ 1000000) (hG : 0 < G) (hG' : G ≤ 1000000) {k : Nat} {P : Pt} (hP : PotOk k P) (hk : k ≤ 1000000) {u : Int} (hu : 1 ≤ u) (hu' : u ≤ 1000000000) :
    ∃ d P', fnF Φ n 5 2 (takeSs A B C E G) [.pot, .int u] P = some (.val (.int d), P') ∧ 0 ≤ d ∧ d < u ∧ PotOk (k + 1) P' := by
  have u0 : 0 < u := by omega
  by_cases h : 0 < P.a
  · refine ⟨P.a % u, ⟨P.a / u, P.b, P.c⟩, ?_, Int.emod_nonneg _ (by omega), Int.emod_lt_of_pos _ (by omega), Int.ediv_nonneg hP.a (by omega), hP.b, hP.b', hP.c, by have := hP.c'; show P.c ≤ ((k + 1 : Nat) : Int); omega⟩
    refine fn_eq rfl ?_
    simp [takeSs, readS, isPot, Pt.cell, Pt.put, h, BI.fn, int_int, bin_mod u0, bin_fdiv u0 (show u < 1073741824 by omega), svOf, setS, intOf]
  · have c0 := hP.c
    have c1 := hP.c'
    generalize hc : P.c + 1 = c
    have c2 : 0 ≤ c := by omega
    have c3 : c ≤ 1000001 := by omega
    obtain ⟨p, hp, p0, p1⟩ := idx_primes (r := c % 5) (by omega) (by omega)
    have s1 : small c = true := small_of (by omega) (by omega)
    have m1 : A * c ≤ 1000000 * 1000001 := Int.mul_le_mul hA' c3 c2 (by omega)
    have m0 : 0 ≤ A * c := Int.mul_nonneg hA c2
    have m3 : A * c * c ≤ 1000000 * 1000001 * 1000001 := Int.mul_le_mul m1 c3 c2 (by omega)
    have m2 : 0 ≤ A * c * c := Int.mul_nonneg m0 c2
    have s2 : small (P.b + A * c * c + B) = true := by
      have := hP.b
      have := hP.b'
      unfold small
      rw [smO_eq]
      rw [Bool.and_eq_true]
      exact ⟨decide_eq_true (by omega), decide_eq_true (by omega)⟩
    generalize hb : (P.b + A * c * c + B) ^ 3 % p = bl
    have b0 : 0 ≤ bl := by rw [← hb]; exact Int.emod_nonneg _ (by omega)
    have b1 : bl < p := by rw [← hb]; exact Int.emod_lt_of_pos _ p0
    have s3 : small bl = true := small_of (by omega) (by omega)
    have G2 : G < 1073741824 := by omega
    have q0 : (0 : Int) < 2305843009213693907 := by omega
    have q5 : (0 : Int) < 5 := by omega
    refine ⟨bl * (bl % C + E * c) % 2305843009213693907 / G % u, ⟨P.a, P.b, c⟩, ?_, Int.emod_nonneg _ (by omega), Int.emod_lt_of_pos _ (by omega), hP.a, hP.b, hP.b', c2, by show c ≤ ((k + 1 : Nat) : Int); omega⟩
    refine fn_eq rfl ?_
    simp [takeSs, readS, isPot, Pt.cell, Pt.put, h, BI.fn, int_int, svOf, setS, intOf, hc]
    simp [readS, isPot, Pt.cell, bin_mod q5, hp, BI.fn, int_int, svOf, setS, bin_mulR s1, bin_pow3 s2, bin_mod p0, hb, bin_mod hC, bin_mulL s3, bin_mod q0, bin_fdiv hG G2, bin_mod u0]
def ofSs : Ss := (.cons (.ret (.idx (.slot 1) (.cal "_law_take" (.cons false (.slot 0) (.cons false (.bi .len (.cons false (.slot 1) .nil)) .nil))))) .nil)
/-- what a draw does -/
def TakeOk (F : Fn) : Prop := ∀ (k : Nat) (P : Pt) (u : Int), PotOk k P → k ≤ 1000000 → 1 ≤ u → u ≤ 1000000000 → ∃ d P', F [.pot, .int u] P = some (.val (.int d), P') ∧ 0 ≤ d ∧ d < u ∧ PotOk (k + 1) P'
/-- one of some -/
theorem of_ok {Φ : Str → Option Fn} {n : Nat} {F : Fn} (hF : Φ "_law_take" = some F) (hT : TakeOk F) {k : Nat} {P : Pt} (hP : PotOk k P) (hk : k ≤ 1000000) {ds : List D} (h1 : 1 ≤ ds.length) (h2 : ds.length ≤ 1000000) : ∃ d P', fnF Φ n 2 2 ofSs [.pot, .lst ds] P = some (.val d, P') ∧ d ∈ ds ∧ PotOk (k + 1) P' := by
  obtain ⟨i, P', e, i0, i1, q⟩ := hT k P ds.length hP hk (by omega) (by omega)
  obtain ⟨j, rfl⟩ : ∃ j : Nat, i = j := ⟨i.toNat, by omega⟩
  have hj : j < ds.length := by omega
  have ix := (idx_nat (xs := ds) (k := j) (List.getElem?_eq_getElem hj)).2.1
  refine ⟨ds[j], P', ?_, List.getElem_mem hj, q⟩
  refine fn_eq rfl ?_
  simp [ofSs, readS, BI.fn, hF, e, ix]
theorem of_okt {Φ : Str → Option Fn} {n : Nat} {F : Fn} (hF : Φ "_law_take" = some F) (hT : TakeOk F) {k : Nat} {P : Pt} (hP : PotOk k P) (hk : k ≤ 1000000) {ds : List D} (h1 : 1 ≤ ds.length) (h2 : ds.length ≤ 1000000) : ∃ d P', fnF Φ n 2 2 ofSs [.pot, .tup ds] P = some (.val d, P') ∧ d ∈ ds ∧ PotOk (k + 1) P' := by
  obtain ⟨i, P', e, i0, i1, q⟩ := hT k P ds.length hP hk (by omega) (by omega)
  obtain ⟨j, rfl⟩ : ∃ j : Nat, i = j := ⟨i.toNat, by omega⟩
  have hj : j < ds.length := by omega
  have ix := (idx_nat (xs := ds) (k := j) (List.getElem?_eq_getElem hj)).1
  refine ⟨ds[j], P', ?_, List.getElem_mem hj, q⟩
  refine fn_eq rfl ?_
  simp [ofSs, readS, BI.fn, hF, e, ix]
end Ev

set_option Elab.async false
set_option linter.all false
set_option maxRecDepth 100000
set_option maxHeartbeats 4000000
/-! Ev25: statement by statement. -/
namespace Ev
open PySem PySem.Spec PyProof.Rows L2
section
variable {Φ : Str → Option Fn} {n : Nat} {S S1 : St'} {s : Ev.S} {r a b : Ss} {K : Fl → Prop} {d : D} {P : Pt}
theorem wp_seqK (h : Wp (exS Φ n s S) fun fl => match fl with
  | .nx S1 => Wp (exSs Φ n r S1) K
  | fl => K fl) : Wp (exSs Φ n (.cons s r) S) K := by
  obtain ⟨fl, e, k⟩ := h
  rw [exSs_cons, e, Option.bind_some]
  cases fl with
  | nx S => exact k
  | _ => exact ⟨_, rfl, k⟩
theorem wp_to (h : exS Φ n s S = some (.nx S1)) (k : Wp (exSs Φ n r S1) K) : Wp (exSs Φ n (.cons s r) S) K := wp_seqK ⟨_, h, k⟩
theorem wp_rt (h : exS Φ n s S = some (.ret d P)) (k : K (.ret d P)) : Wp (exSs Φ n (.cons s r) S) K := wp_seqK ⟨_, h, k⟩
theorem wp_nil (k : K (.nx S)) : Wp (exSs Φ n .nil S) K := ⟨_, rfl, k⟩
/-- a statement by what it may end with -/
theorem wp_step (J : St' → Prop) (R : D → Pt → Prop) (h : Wp (exS Φ n s S) (Done J R)) (k1 : ∀ S1, J S1 → Wp (exSs Φ n r S1) K) (k2 : ∀ d P, R d P → K (.ret d P)) : Wp (exSs Φ n (.cons s r) S) K := wp_seqK (h.mono fun fl q => by
  cases fl with
  | nx S1 => exact k1 S1 q
  | ret d P => exact k2 d P q
  | _ => exact (show False from q).elim)
theorem wp_st0 (J : St' → Prop) (h : Wp (exS Φ n s S) (Done J fun _ _ => False)) (k1 : ∀ S1, J S1 → Wp (exSs Φ n r S1) K) : Wp (exSs Φ n (.cons s r) S) K := wp_step J _ h k1 fun _ _ q => q.elim
/-- an if whose test is known -/
theorem wp_ift {c : E} (h : ev Φ c true true S = some (.val d, S1)) (hk : truD d = some true) (h2 : Wp (exSs Φ n a S1) fun fl => match fl with
  | .nx S1 => Wp (exSs Φ n r S1) K
  | fl => K fl) : Wp (exSs Φ n (.cons (.ife c a b) r) S) K := wp_seqK (by
  rw [exS_ife, h, bindF_val, hk, Option.bind_some, if_pos rfl]
  exact h2)
theorem wp_iff {c : E} (h : ev Φ c true true S = some (.val d, S1)) (hk : truD d = some false) (h2 : Wp (exSs Φ n b S1) fun fl => match fl with
  | .nx S1 => Wp (exSs Φ n r S1) K
  | fl => K fl) : Wp (exSs Φ n (.cons (.ife c a b) r) S) K := wp_seqK (by
  rw [exS_ife, h, bindF_val, hk, Option.bind_some, if_neg (by decide)]
  exact h2)
/-- .. in an expression's own words -/
theorem wp_ifb {c : E} {k : Bool} (h : ev Φ c true true S = some (.val (.bl k), S1)) (ht : k = true → Wp (exSs Φ n a S1) fun fl => match fl with
  | .nx S1 => Wp (exSs Φ n r S1) K
  | fl => K fl) (hf : k = false → Wp (exSs Φ n b S1) fun fl => match fl with
  | .nx S1 => Wp (exSs Φ n r S1) K
  | fl => K fl) : Wp (exSs Φ n (.cons (.ife c a b) r) S) K := by
  cases k with
  | true => exact wp_ift h rfl (ht rfl)
  | false => exact wp_iff h rfl (hf rfl)
/-- a for over a typed list -/
theorem wp_forr {α : Type} {h : α → D} {t : T} {it : Itr} {xs : List α} {E : St' → Prop} {R : D → Pt → Prop} (h1 : evi Φ it false true S = some (xs.map h, S1)) (I : Nat → St' → Prop) (h0 : I 0 S1)
    (hs : ∀ i x S, xs[i]? = some x → I i S → Wp (bindT t (h x) S.env) fun env => Wp (exSs Φ n b ⟨env, S.pot⟩) (Turn (I (i + 1)) E R)) (hE : ∀ S, I xs.length S → E S) : Wp (exS Φ n (.forr t it b) S) (Done E R) := by
  rw [exS_forr, h1, Option.bind_some]
  exact for_wp I h0 hs hE
end
end Ev

set_option Elab.async false
set_option linter.all false
set_option maxRecDepth 100000
set_option maxHeartbeats 4000000
/-! Ev26: while, dicts, pop, for simp. -/
namespace Ev
open PySem PySem.Spec PyProof.Rows L2
section
variable {Φ : Str → Option Fn} {n : Nat} {bo fz : Bool} {S S1 : St'} {s : Ev.S} {r a b : Ss} {K : Fl → Prop} {d : D} {P : Pt}
@[simp] theorem ev_dnw {t : Bool} : ev Φ (.dnw t) bo fz S = some (.val (.dct t [] []), S) := (rfl)
@[simp] theorem ev_dn1 {t : Bool} {k v : E} : ev Φ (.dn1 t k v) bo fz S = bindR (ev Φ k false fz S) fun k S => bindR (ev Φ v false fz S) fun d S => if keyOk t k = true then some (.val (.dct t [k] [d]), S) else none := (rfl)
@[simp] theorem ev_lr1 {a : E} : ev Φ (.lr1 a) bo fz S = bindR (ev Φ a true fz S) fun x S => pureV (lrgD x) S := (rfl)
@[simp] theorem ev_rev {a : E} : ev Φ (.rev a) bo fz S = bindR (ev Φ a true fz S) fun x S => pureV (revD x) S := (rfl)
theorem ev_dc {k v : E} {t : T} {it : Itr} {own : List Nat} : ev Φ (.dc k v t it own) bo fz S = (evi Φ it true fz S).bind fun (items, S) =>
      if items.length < LIM ∧ own.all (fun i => notOwn S.env i) = true then (dcRun (dcBody t (wipeE S.env own) (ev Φ k false false) (ev Φ v false false)) items ([], []) S.pot).map fun (a, P) => (.val (.dct false a.1 a.2), ⟨S.env, P⟩) else none := (rfl)
@[simp] theorem evi_zip {a b : E} : evi Φ (.zip a b) bo fz S = (ev Φ a bo fz S).bind fun (r, S) => (match r with
    | .val d => (ev Φ b bo fz S).bind fun (r, S) => (match r with
      | .val e => (zipD d e).map fun xs => (xs, S)
      | _ => none)
    | .exc _ _ => none) := (rfl)
@[simp] theorem evi_keys {e : E} : evi Φ (.keys e) bo fz S = (ev Φ e bo fz S).bind fun (r, S) => (match r with
    | .val d => (keysOf d).map fun xs => (xs, S)
    | .exc _ _ => none) := (rfl)
@[simp] theorem exS_dput {i : Nat} {ix e : E} : exS Φ n (.dput i ix e) S = bindF (ev Φ e false true S) fun d S => (odAt S i).bind fun _ => bindF (ev Φ ix false true S) fun k S => (odAt S i).bind fun x =>
      if keyOk x.1 k = true ∧ x.2.1.length < LIM then (setS i (.od x.1 (putD x.2.1 x.2.2 k d).1 (putD x.2.1 x.2.2 k d).2) S).map .nx else none := (rfl)
@[simp] theorem exS_dupd {i : Nat} {e : E} : exS Φ n (.dupd i e) S = (odAt S i).bind fun _ => bindF (ev Φ e false true S) fun d S => (odAt S i).bind fun x => (updD x d).bind fun y => (setS i (.od false y.1 y.2) S).map .nx := (rfl)
@[simp] theorem exS_setPop {i r : Nat} {e : E} : exS Φ n (.setPop i r e) S = (ownAt S r).bind fun _ => bindF (ev Φ e true true S) fun y S => (intOf y).bind fun n => (ownAt S r).bind fun ds => (popD ds n).bind fun p => (setS r (.own p.2) S).bind fun S => (setS i (.val p.1) S).map .nx := (rfl)
@[simp] theorem exS_appPop {i r : Nat} {e : E} : exS Φ n (.appPop i r e) S = (ownAt S i).bind fun _ => (ownAt S r).bind fun _ => bindF (ev Φ e true true S) fun y S => (intOf y).bind fun n => (ownAt S r).bind fun ds => (popD ds n).bind fun p => (setS r (.own p.2) S).bind fun S => (ownAt S i).bind fun es => if es.length < LIM ∧ i ≠ r then (setS i (.own (es ++ [p.1])) S).map .nx else none := (rfl)
@[simp] theorem len_dct {t : Bool} {ks vs : List D} : lenF [.dct t ks vs] = some (.int ks.length) := (rfl)
@[simp] theorem cmp_ind {d : D} {t : Bool} {ks vs : List D} : cmpB .in_ d (.dct t ks vs) = if keyOk t d = true then some (lookD ks vs d).isSome else none := (rfl)
@[simp] theorem cmp_notind {d : D} {t : Bool} {ks vs : List D} : cmpB .notin d (.dct t ks vs) = (if keyOk t d = true then some (lookD ks vs d).isSome else none).map (!·) := (rfl)
@[simp] theorem idx_dct {d : D} {t : Bool} {ks vs : List D} : idxD (.dct t ks vs) d = if keyOk t d = true then lookD ks vs d else none := (rfl)
@[simp] theorem key_int {i : Int} : keyOk false (.int i) = true := (rfl)
@[simp] theorem rev_lst {xs : List D} : revD (.lst xs) = some (.lst xs.reverse) := (rfl)
@[simp] theorem zip_tt {xs ys : List D} : zipD (.tup xs) (.tup ys) = some (zipL xs ys) := (rfl)
@[simp] theorem zip_ll {xs ys : List D} : zipD (.lst xs) (.lst ys) = some (zipL xs ys) := (rfl)
@[simp] theorem keys_dct {ks vs : List D} : keysOf (.dct false ks vs) = some ks := (rfl)
theorem lrg_nat {k : Nat} (h : k ≤ 1000000) : lrgD (.int k) = some (.lst ((List.range k).map fun i => .int (i : Nat))) := by
  show (if 0 ≤ (k : Int) ∧ (k : Int) ≤ mlO then some (D.lst ((List.range (k : Int).toNat).map fun i => .int (i : Nat))) else none) = _
  rw [mlO_eq, if_pos ⟨by omega, by omega⟩]
  rfl
/-- a while, by a measure -/
theorem while_run {fc : St' → Option (Res × St')} {f : St' → Option Fl} {E : St' → Prop} {R : D → Pt → Prop} (I : Nat → St' → Prop)
    (hs : ∀ m S, I m S → ∃ d S1, fc S = some (.val d, S1) ∧ ((truD d = some false ∧ E S1) ∨ (truD d = some true ∧ Wp (f S1) (Turn (fun S' => ∃ m', m' < m ∧ I m' S') E R)))) :
    ∀ (k m : Nat) (S : St'), m < k → I m S → Wp (whileRun fc f k S) (Done E R)
  | 0, _, _, h, _ => absurd h (Nat.not_lt_zero _)
  | k + 1, m, S, h, hi => by
    obtain ⟨d, S1, e, q⟩ := hs m S hi
    rw [whileRun, e, bindF_val]
    rcases q with ⟨e2, q⟩ | ⟨e2, fl, e3, q⟩
    · rw [e2, Option.bind_some, if_neg (by decide)]
      exact ⟨_, rfl, q⟩
    · rw [e2, Option.bind_some, if_pos rfl, e3, Option.bind_some]
      cases fl with
      | nx S2 =>
        obtain ⟨m', l, q⟩ := q
        exact while_run I hs k m' S2 (by omega) q
      | ct S2 =>
        obtain ⟨m', l, q⟩ := q
        exact while_run I hs k m' S2 (by omega) q
      | brk S2 => exact ⟨_, rfl, q⟩
      | ret d P => exact ⟨_, rfl, q⟩
      | exc _ _ _ => exact (show False from q).elim
theorem wp_while {c : E} {E : St' → Prop} {R : D → Pt → Prop} (I : Nat → St' → Prop) (m : Nat) (hm : m < n) (h0 : I m S)
    (hs : ∀ m S, I m S → ∃ d S1, ev Φ c true true S = some (.val d, S1) ∧ ((truD d = some false ∧ E S1) ∨ (truD d = some true ∧ Wp (exSs Φ n b S1) (Turn (fun S' => ∃ m', m' < m ∧ I m' S') E R)))) : Wp (exS Φ n (.whil c b) S) (Done E R) :=
  while_run I hs n m S hm h0
/-! ### dicts of typed keys -/
def lkA {α : Type} [DecidableEq α] : List (α × D) → α → Option D
  | [], _ => none
  | p :: r, x => if p.1 = x then some p.2 else lkA r x
theorem look_A {α : Type} [DecidableEq α] {enc : α → D} (he : ∀ x y, nkD (enc x) = nkD (enc y) → x = y) (x : α) : ∀ A : List (α × D), lookD (A.map fun p => enc p.1) (A.map (·.2)) (enc x) = lkA A x
  | [] => rfl
  | p :: A => by
    rw [List.map_cons, List.map_cons, lookD, lkA, look_A he x A]
    by_cases h : p.1 = x
    · rw [if_pos h, if_pos (by rw [h])]
    · rw [if_neg h, if_neg (fun z => h (he _ _ z))]
theorem put_A {α : Type} [DecidableEq α] {enc : α → D} (he : ∀ x y, nkD (enc x) = nkD (enc y) → x = y) {x : α} {d : D} {A : List (α × D)} (h : lkA A x = none) : putD (A.map fun p => enc p.1) (A.map (·.2)) (enc x) d = ((A ++ [(x, d)]).map fun p => enc p.1, (A ++ [(x, d)]).map (·.2)) := by
  unfold putD
  rw [look_A he, h]
  simp
theorem nk_int (x y : Int) (h : nkD (.int x) = nkD (.int y)) : x = y := by
  unfold nkD at h
  cases h
  rfl
theorem lkA_none {α : Type} [DecidableEq α] {A : List (α × D)} {x : α} : lkA A x = none ↔ x ∉ A.map (·.1) := by
  induction A with
  | nil => simp [lkA]
  | cons p A ih =>
    rw [lkA]
    by_cases h : p.1 = x
    · rw [if_pos h]
      simp [h]
    · rw [if_neg h, ih]
      simp [Ne.symm h]
theorem lkA_some {α : Type} [DecidableEq α] {A : List (α × D)} {x : α} (h : x ∈ A.map (·.1)) : ∃ d, lkA A x = some d := by
  cases q : lkA A x with
  | some d => exact ⟨d, rfl⟩
  | none => exact absurd h (lkA_none.mp q)
theorem lkA_app {α : Type} [DecidableEq α] {A B : List (α × D)} {x : α} : lkA (A ++ B) x = (lkA A x).or (lkA B x) := by
  induction A with
  | nil => simp [lkA]
  | cons p A ih =>
    rw [List.cons_append, lkA, lkA]
    by_cases h : p.1 = x
    · rw [if_pos h, if_pos h]
      rfl
    · rw [if_neg h, if_neg h, ih]
theorem lkA_mem {α : Type} [DecidableEq α] {A : List (α × D)} {x : α} {d : D} (h : lkA A x = some d) : (x, d) ∈ A := by
  induction A with
  | nil => cases h
  | cons p A ih =>
    rw [lkA] at h
    by_cases q : p.1 = x
    · rw [if_pos q] at h
      cases h
      subst q
      exact List.mem_cons_self
    · rw [if_neg q] at h
      exact List.mem_cons_of_mem _ (ih h)
/-- pop(0) -/
theorem pop0 {x : D} {xs : List D} (h : xs.length < 1000000) : popD (x :: xs) 0 = some (x, xs) := by
  unfold popD
  rw [if_pos (le_lim (by rw [List.length_cons]; omega))]
  have e : ixN (x :: xs).length 0 = some 0 := by
    unfold ixN
    simp
  rw [e]
  rfl
end
end Ev

set_option Elab.async false
set_option linter.all false
set_option maxRecDepth 100000
set_option maxHeartbeats 4000000
/-! Ev27: lists of ints sorted, numbers drawn without going back: _law_some. -/
namespace Ev
open PySem PySem.Spec PyProof.Rows L2
abbrev leI (l : List Int) : List Int := l.mergeSort fun a b => decide (a ≤ b)
theorem sort_ints {l : List Int} (h : l.length ≤ 1000000) : sortF [.lst (l.map .int)] = some (.lst ((leI l).map .int)) := by
  have ok : sortOk (l.map D.int) = true := by
    unfold sortOk
    rw [alike_ints, Bool.true_and, Bool.and_eq_true, Bool.or_eq_true]
    refine ⟨.inr (List.all_eq_true.mpr fun d hd => ?_), decide_eq_true (le_lim (by rw [List.length_map]; exact h))⟩
    obtain ⟨i, _, rfl⟩ := List.mem_map.mp hd
    rfl
  show (if sortOk (l.map D.int) then some (D.lst ((l.map D.int).mergeSort (PySem.W.dataLe false D.py))) else none) = _
  rw [if_pos ok]
  congr 2
  refine (List.map_mergeSort fun a _ b _ => ?_).symm
  rw [PySem.W.dataLe_eq]
  show decide (a ≤ b) = !PySem.W.dataLt (D.int b).py (D.int a).py
  rw [dl_int]
  by_cases q : b < a
  · simp [q]
  · simp [q]
    omega
theorem leI_perm (l : List Int) : (leI l).Perm l := List.mergeSort_perm l _
theorem leI_up (l : List Int) : (leI l).Pairwise (· ≤ ·) := by
  have := List.pairwise_mergeSort (le := fun (a b : Int) => decide (a ≤ b)) (fun a b c h1 h2 => by simp at *; omega) (fun a b => by simp; omega) l
  exact this.imp fun h => by simpa using h
/-- numbers from 0 on, as ints -/
abbrev upI (l : List Nat) : List Int := l.map fun (k : Nat) => (k : Int)
theorem up_leI (l : List Nat) : leI (upI l) = upI (l.mergeSort fun a b => decide (a ≤ b)) := by
  refine (List.map_mergeSort fun a _ b _ => ?_).symm
  simp
abbrev leN (l : List Nat) : List Nat := l.mergeSort fun a b => decide (a ≤ b)
theorem leN_perm (l : List Nat) : (leN l).Perm l := List.mergeSort_perm l _
theorem leN_up (l : List Nat) : (leN l).Pairwise (· ≤ ·) := by
  have := List.pairwise_mergeSort (le := fun (a b : Nat) => decide (a ≤ b)) (fun a b c h1 h2 => by simp at *; omega) (fun a b => by simp; omega) l
  exact this.imp fun h => by simpa using h
theorem leN_lt {l : List Nat} (h : l.Nodup) : (leN l).Pairwise (· < ·) := by
  have h1 := leN_up l
  have h2 : (leN l).Nodup := (leN_perm l).nodup_iff.mpr h
  exact (List.Pairwise.and h1 h2).imp fun ⟨a, b⟩ => by omega
/-! ### drawn, not to be drawn again -/
theorem erase_cons {α : Type} {l : List α} {j : Nat} {x : α} (h : l[j]? = some x) : l.Perm (x :: l.eraseIdx j) := by
  induction l generalizing j with
  | nil => simp at h
  | cons y l ih =>
    cases j with
    | zero =>
      simp at h
      subst h
      simp
    | succ j =>
      rw [List.eraseIdx_cons_succ]
      exact ((ih (by simpa using h)).cons y).trans (List.Perm.swap _ _ _)
def someSs : Ss := (.cons (.par2 true true 4 5 (.bi .list (.cons false (.slot 1) .nil)) (.lst .nil)) (.cons (.forr (.nm 3) (.rng1 (.slot 2)) (.cons (.appPop 5 4 (.cal "_law_take" (.cons false (.slot 0) (.cons false (.bi .len (.cons false (.slot 4) .nil)) .nil)))) .nil)) (.cons (.ret (.slot 5)) .nil)))
theorem some_ok {Φ : Str → Option Fn} {n : Nat} {F : Fn} (hF : Φ "_law_take" = some F) (hT : TakeOk F) {k : Nat} {P : Pt} (hP : PotOk k P) {m : Nat} (hk : k + m ≤ 1000000) {ds : List D} (hm : m ≤ ds.length) (hd : ds.length ≤ 900000) :
    ∃ xs P', fnF Φ n 6 3 someSs [.pot, .lst ds, .int m] P = some (.val (.lst xs), P') ∧ xs.length = m ∧ (∃ r, (xs ++ r).Perm ds) ∧ PotOk (k + m) P' := by
  have hr : rngD 0 (m : Int) = _ := rngD_ok (by omega) (by omega) (by omega) (by omega)
  have main : Wp (fnF Φ n 6 3 someSs [.pot, .lst ds, .int m] P) (fun x => ∃ xs P', x = (.val (.lst xs), P') ∧ xs.length = m ∧ (∃ r, (xs ++ r).Perm ds) ∧ PotOk (k + m) P') := by
    refine fn_wp rfl ?_
    simp only [someSs]
    refine wp_to (S1 := ⟨[.val .pot, .val (.lst ds), .val (.int m), .un, .own ds, .own []], P⟩) (by simp [readS, svOf, setS, BI.fn]) ?_
    refine wp_st0 (fun S => ∃ j3 rs xs P', xs.length = m ∧ (xs ++ rs).Perm ds ∧ PotOk (k + m) P' ∧ S = ⟨[.val .pot, .val (.lst ds), .val (.int m), j3, .own rs, .own xs], P'⟩) ?_ ?_
    · refine wp_forr (h := fun (i : Nat) => D.int (0 + i)) (xs := List.range ((m : Int) - 0).toNat) (S1 := ⟨[.val .pot, .val (.lst ds), .val (.int m), .un, .own ds, .own []], P⟩) (evi_rng1_ok (j := (m : Int)) (by simp [readS]) hr) (fun i S => ∃ j3 rs xs P', xs.length = i ∧ (xs ++ rs).Perm ds ∧ PotOk (k + i) P' ∧ S = ⟨[.val .pot, .val (.lst ds), .val (.int m), j3, .own rs, .own xs], P'⟩) ⟨.un, ds, [], P, rfl, by simp, hP, rfl⟩ ?_ ?_
      · rintro i x S hx ⟨j3, rs, xs, P1, hl, hp, hP1, rfl⟩
        have hi : i < m := by
          have := (List.getElem?_eq_some_iff.mp hx).1
          simp at this
          omega
        have hlen : xs.length + rs.length = ds.length := by
          have := hp.length_eq
          rw [List.length_append] at this
          exact this
        obtain ⟨d, P2, e, d0, d1, hP2⟩ := hT (k + i) P1 rs.length hP1 (by omega) (by omega) (by omega)
        obtain ⟨j, rfl⟩ : ∃ j : Nat, d = j := ⟨d.toNat, by omega⟩
        have hj : j < rs.length := by omega
        have ej : rs[j]? = some rs[j] := List.getElem?_eq_getElem hj
        generalize rs[j] = y at ej
        have ep : popD rs (j : Int) = some (y, rs.eraseIdx j) := by
          unfold popD
          have e2 : ixN rs.length (j : Int) = some j := by
            unfold ixN
            rw [if_pos (by omega), if_pos (by omega)]
            simp
          rw [if_pos (le_lim (by omega)), e2, Option.bind_some, ej]
          rfl
        have lX : xs.length < LIM := Nat.lt_of_lt_of_le (show xs.length < 1000000 by omega) (by decide)
        simp only [bindT_nm, List.length_cons, List.length_nil]
        rw [if_pos (by simp), wp_some]
        refine wp_to (S1 := ⟨[.val .pot, .val (.lst ds), .val (.int m), .val (.int (0 + (x : Nat))), .own (rs.eraseIdx j), .own (xs ++ [y])], P2⟩) ?_ ?_
        · have lr : lenF [.lst rs] = some (.int rs.length) := rfl
          simp [readS, ownAt, hF, BI.fn, e, intOf, ep, setS, lX]
        · refine wp_nil ⟨_, _, _, P2, by simp [hl], ?_, hP2, rfl⟩
          have : (xs ++ [y] ++ rs.eraseIdx j).Perm (xs ++ rs) := by
            rw [List.append_assoc]
            exact (List.Perm.append_left xs (erase_cons ej).symm)
          exact this.trans hp
      · rintro S ⟨j3, rs, xs, P1, hl, hp, hP1, rfl⟩
        simp at hl hP1
        exact ⟨j3, rs, xs, P1, hl, hp, hP1, rfl⟩
    · rintro S ⟨j3, rs, xs, P1, hl, hp, hP1, rfl⟩
      simp [readS]
      exact ⟨xs, P1, ⟨rfl, rfl⟩, hl, ⟨rs, hp⟩, hP1⟩
  obtain ⟨x, e, xs, P', rfl, h⟩ := main
  exact ⟨xs, P', e, h⟩
theorem nI_inj {a b : Nat} (h : D.int (a : Int) = D.int (b : Int)) : a = b := by
  have := D.int.inj h
  omega
/-- .. of the first so many numbers -/
theorem some_nat {xs r : List D} {N : Nat} (h : (xs ++ r).Perm ((List.range N).map fun (k : Nat) => D.int (k : Int))) : ∃ ns : List Nat, xs = ns.map (fun (k : Nat) => D.int (k : Int)) ∧ ns.Nodup ∧ (∀ x ∈ ns, x < N) ∧ (xs.length = N → ns.Perm (List.range N)) := by
  have mem : ∀ d ∈ xs ++ r, ∃ k : Nat, k < N ∧ d = .int (k : Int) := fun d hd => by
    obtain ⟨k, hk, rfl⟩ := List.mem_map.mp (h.mem_iff.mp hd)
    exact ⟨k, List.mem_range.mp hk, rfl⟩
  have nats : ∀ l : List D, (∀ d ∈ l, ∃ k : Nat, k < N ∧ d = .int (k : Int)) → ∃ ns : List Nat, l = ns.map (fun (k : Nat) => D.int (k : Int)) ∧ ∀ x ∈ ns, x < N := by
    intro l
    induction l with
    | nil => exact fun _ => ⟨[], rfl, fun _ h => nomatch h⟩
    | cons d l ih =>
      intro hl
      obtain ⟨k, hk, rfl⟩ := hl d List.mem_cons_self
      obtain ⟨ns, rfl, hns⟩ := ih fun e he => hl e (List.mem_cons_of_mem _ he)
      refine ⟨k :: ns, rfl, fun x hx => ?_⟩
      rcases List.mem_cons.mp hx with rfl | hx
      · exact hk
      · exact hns x hx
  obtain ⟨ns, rfl, hns⟩ := nats xs fun d hd => mem d (List.mem_append_left _ hd)
  obtain ⟨ms, rfl, hms⟩ := nats r fun d hd => mem d (List.mem_append_right _ hd)
  have hp : (ns ++ ms).Perm (List.range N) := by
    rw [← List.map_append] at h
    have h2 := h.map fun d => (match d with | .int i => i.toNat | _ => 0)
    simpa [List.map_map, Function.comp_def] using h2
  have nd : (ns ++ ms).Nodup := hp.nodup_iff.mpr List.nodup_range
  refine ⟨ns, rfl, (List.nodup_append.mp nd).1, hns, fun hl => ?_⟩
  have : ms = [] := by
    have := hp.length_eq
    rw [List.length_append, List.length_range] at this
    rw [List.length_map] at hl
    exact List.eq_nil_of_length_eq_zero (by omega)
  rw [this] at hp
  simpa using hp
@[simp] theorem rep_lst {xs : List D} {k : Nat} (h : k ≤ 1000) (h2 : xs.length ≤ 1000) : binD .mul (.lst xs) (.int (k : Nat)) = some (.lst (repF k xs)) := by
  show (if 0 ≤ (k : Int) ∧ (k : Int) ≤ 1000 ∧ xs.length ≤ 1000 then some (D.lst (repF k xs)) else none) = _
  rw [if_pos ⟨by omega, by omega, h2⟩]
theorem repF_one (x : D) (k : Nat) : repF (k : Int) [x] = List.replicate k x := by
  unfold repF
  induction k with
  | zero => rfl
  | succ k ih =>
    have e : ((k : Int).toNat) = k := by omega
    have e2 : (((k + 1 : Nat) : Int).toNat) = k + 1 := by omega
    rw [e] at ih
    rw [e2, List.replicate_succ, List.flatten_cons, ih, List.replicate_succ]
    rfl
end Ev

set_option Elab.async false
set_option linter.all false
set_option maxRecDepth 100000
set_option maxHeartbeats 0
namespace K62
open PySem PySem.Spec PyProof.Rows L2 Ev
def conL : List (Str × D) := [("MOST_TAPES", (.int 12)), ("MOST_ASKS", (.int 20)), ("MOST_WEAR", (.int 1000000)), ("PAIR", (.int 2)), ("TRIPLE", (.int 3))]
def conEq : D → D → Bool
  | .int i, .int j => decide (i = j)
  | .str i, .str j => decide (i = j)
  | _, _ => false
def glo (x : Str) (d : D) : Bool := (conL.lookup x).any (conEq d)
def N_is_tuple : List Str := ["value", "least", "most"]
def ps_is_tuple : List Str := ["value", "least", "most"]
def a_is_tuple : Ss := (.cons (.ret (.and (.cons false (.isi .tup (.slot 0)) (.cons false (.chn .le .le (.slot 1) (.bi .len (.cons false (.slot 0) .nil)) (.slot 2)) .nil)))) .nil)
-- calls: []
def N_is_whole : List Str := ["value"]
def ps_is_whole : List Str := ["value"]
def a_is_whole : Ss := (.cons (.ret (.and (.cons false (.isi .int (.slot 0)) (.cons false (.not (.isi .bool (.slot 0))) .nil)))) .nil)
-- calls: []
def N_is_integer : List Str := ["value", "low", "high"]
def ps_is_integer : List Str := ["value", "low", "high"]
def a_is_integer : Ss := (.cons (.ret (.and (.cons false (.cal "is_whole" (.cons false (.slot 0) .nil)) (.cons false (.chn .le .le (.slot 1) (.slot 0) (.slot 2)) .nil)))) .nil)
-- calls: ['is_whole']
def N_is_rising : List Str := ["values", "one", "other"]
def ps_is_rising : List Str := ["values"]
def a_is_rising : Ss := (.cons (.ret (.bi .all (.cons false (.lc (.cmp .lt (.slot 1) (.slot 2)) (.tup (.cons (.nm 1) (.cons (.nm 2) .nil))) (.zip (.slot 0) (.slc (.slot 0) (.so (.con (.int 1))) .no)) .no [1, 2]) .nil))) .nil)
-- calls: []
def N_is_copy : List Str := ["wear", "value", "one"]
def ps_is_copy : List Str := ["wear", "value"]
def a_is_copy : Ss := (.cons (.ife (.or (.cons false (.not (.cal "is_tuple" (.cons false (.slot 1) (.cons false (.con (.int 1)) (.cons false (.bi .len (.cons false (.slot 0) .nil)) .nil))))) (.cons false (.not (.bi .all (.cons false (.lc (.cal "is_integer" (.cons false (.slot 2) (.cons false (.con (.int 0)) (.cons false (.bin .sub (.bi .len (.cons false (.slot 0) .nil)) (.con (.int 1))) .nil)))) (.nm 2) (.seq (.slot 1)) .no [2]) .nil))) .nil))) (.cons (.ret (.con (.bl false))) .nil) .nil) (.cons (.ret (.cal "is_rising" (.cons false (.slot 1) .nil))) .nil))
-- calls: ['is_rising', 'is_integer', 'is_tuple']
def N_check_wear : List Str := ["wear", "copies", "one"]
def ps_check_wear : List Str := ["wear", "copies"]
def a_check_wear : Ss := (.cons (.ife (.or (.cons false (.not (.cal "is_tuple" (.cons false (.slot 0) (.cons false (.con (.int 1)) (.cons false (.glo "MOST_TAPES" (.int 12)) .nil))))) (.cons false (.not (.bi .all (.cons false (.lc (.cal "is_integer" (.cons false (.slot 2) (.cons false (.con (.int 0)) (.cons false (.glo "MOST_WEAR" (.int 1000000)) .nil)))) (.nm 2) (.seq (.slot 0)) .no [2]) .nil))) .nil))) (.cons .bad .nil) .nil) (.cons (.ife (.or (.cons false (.not (.cal "is_tuple" (.cons false (.slot 1) (.cons false (.con (.int 0)) (.cons false (.glo "MOST_ASKS" (.int 20)) .nil))))) (.cons false (.not (.bi .all (.cons false (.lc (.cal "is_copy" (.cons false (.slot 0) (.cons false (.slot 2) .nil))) (.nm 2) (.seq (.slot 1)) .no [2]) .nil))) .nil))) (.cons .bad .nil) .nil) .nil))
-- calls: ['is_copy', 'is_tuple', 'is_integer']
def N_is_choice : List Str := ["copies", "value", "one", "some"]
def ps_is_choice : List Str := ["copies", "value"]
def a_is_choice : Ss := (.cons (.ife (.not (.cal "is_tuple" (.cons false (.slot 1) (.cons false (.bi .len (.cons false (.slot 0) .nil)) (.cons false (.bi .len (.cons false (.slot 0) .nil)) .nil))))) (.cons (.ret (.con (.bl false))) .nil) .nil) (.cons (.ret (.bi .all (.cons false (.lc (.and (.cons false (.cal "is_integer" (.cons false (.slot 2) (.cons false (.con (.int 0)) (.cons false (.glo "MOST_TAPES" (.int 12)) .nil)))) (.cons false (.cmp .in_ (.slot 2) (.slot 3)) .nil))) (.tup (.cons (.nm 2) (.cons (.nm 3) .nil))) (.zip (.slot 1) (.slot 0)) .no [2, 3]) .nil))) .nil))
-- calls: ['is_integer', 'is_tuple']
def N_loads : List Str := ["wear", "choice", "found", "tape"]
def ps_loads : List Str := ["wear", "choice"]
def a_loads : Ss := (.cons (.set true 2 (.bi .list (.cons false (.slot 0) .nil))) (.cons (.forr (.nm 3) (.seq (.slot 1)) (.cons (.put 2 (.slot 3) (.bin .add (.idx (.slot 2) (.slot 3)) (.con (.int 1)))) .nil)) (.cons (.ret (.slot 2)) .nil)))
-- calls: []
def N_reached : List Str := ["copies", "choice", "tape", "found", "waiting", "here", "ask", "own", "other"]
def ps_reached : List Str := ["copies", "choice", "tape"]
def a_reached : Ss := (.cons (.par2 true true 3 4 (.dn1 false (.slot 2) (.con .non)) (.lst (.cons false (.slot 2) .nil))) (.cons (.whil (.cmp .ne (.slot 4) (.lst .nil)) (.cons (.setPop 5 4 (.con (.int 0))) (.cons (.forr (.tup (.cons (.nm 6) (.cons (.nm 7) .nil))) (.enum (.slot 1)) (.cons (.ife (.cmp .eq (.slot 7) (.slot 5)) (.cons (.forr (.nm 8) (.seq (.idx (.slot 0) (.slot 6))) (.cons (.ife (.cmp .notin (.slot 8) (.slot 3)) (.cons (.dput 3 (.slot 8) (.tup (.cons false (.slot 6) (.cons false (.slot 5) .nil)))) (.cons (.app 4 (.slot 8)) .nil)) .nil) .nil)) .nil) .nil) .nil)) .nil))) (.cons (.ret (.slot 3)) .nil)))
-- calls: []
def N_moved : List Str := ["choice", "found", "tape", "new", "ask", "ahead"]
def ps_moved : List Str := ["choice", "found", "tape"]
def a_moved : Ss := (.cons (.set true 3 (.bi .list (.cons false (.slot 0) .nil))) (.cons (.whil (.cmp .isnot (.idx (.slot 1) (.slot 2)) (.con .non)) (.cons (.asg (.tup (.cons (.nm 4) (.cons (.nm 5) .nil))) (.idx (.slot 1) (.slot 2))) (.cons (.put 3 (.slot 4) (.slot 2)) (.cons (.set false 2 (.slot 5)) .nil)))) (.cons (.ret (.bi .tuple (.cons false (.slot 3) .nil))) .nil)))
-- calls: []
def N_better : List Str := ["wear", "copies", "choice", "now", "tape", "found", "some", "other"]
def ps_better : List Str := ["wear", "copies", "choice"]
def a_better : Ss := (.cons (.set false 3 (.cal "loads" (.cons false (.slot 0) (.cons false (.slot 2) .nil)))) (.cons (.forr (.nm 4) (.rng1 (.bi .len (.cons false (.slot 0) .nil))) (.cons (.set false 5 (.cal "reached" (.cons false (.slot 1) (.cons false (.slot 2) (.cons false (.slot 4) .nil))))) (.cons (.set false 6 (.lc (.slot 7) (.nm 7) (.seq (.bi .sorted (.cons false (.slot 5) .nil))) (.so (.cmp .lt (.bin .add (.idx (.slot 3) (.slot 7)) (.con (.int 1))) (.idx (.slot 3) (.slot 4)))) [7])) (.cons (.ife (.cmp .ne (.slot 6) (.lst .nil)) (.cons (.ret (.cal "moved" (.cons false (.slot 2) (.cons false (.slot 5) (.cons false (.idx (.slot 6) (.con (.int 0))) .nil))))) .nil) .nil) .nil)))) (.cons (.ret (.con .non)) .nil)))
-- calls: ['moved', 'reached', 'loads']
def N_even_of : List Str := ["wear", "copies", "choice", "new", "ask", "some", "now", "tape"]
def ps_even_of : List Str := ["wear", "copies"]
def a_even_of : Ss := (.cons (.set false 2 (.tup .nil)) (.cons (.forr (.tup (.cons (.nm 4) (.cons (.nm 5) .nil))) (.enum (.slot 1)) (.cons (.set false 6 (.cal "loads" (.cons false (.slot 0) (.cons false (.slot 2) .nil)))) (.cons (.set false 2 (.tup (.cons true (.slot 2) (.cons false (.idx (.bi .min (.cons false (.lc (.tup (.cons false (.idx (.slot 6) (.slot 7)) (.cons false (.slot 7) .nil))) (.nm 7) (.seq (.slot 5)) .no [7]) .nil)) (.con (.int 1))) .nil)))) .nil))) (.cons (.set false 3 (.cal "better" (.cons false (.slot 0) (.cons false (.slot 1) (.cons false (.slot 2) .nil))))) (.cons (.whil (.cmp .isnot (.slot 3) (.con .non)) (.cons (.par2 false false 2 3 (.slot 3) (.cal "better" (.cons false (.slot 0) (.cons false (.slot 1) (.cons false (.slot 3) .nil))))) .nil)) (.cons (.ret (.slot 2)) .nil)))))
-- calls: ['better', 'loads']
def N_even_choice : List Str := ["wear", "copies"]
def ps_even_choice : List Str := ["wear", "copies"]
def a_even_choice : Ss := (.cons (.exp (.cal "check_wear" (.cons false (.slot 0) (.cons false (.slot 1) .nil)))) (.cons (.ret (.cal "even_of" (.cons false (.slot 0) (.cons false (.slot 1) .nil)))) .nil))
-- calls: ['even_of', 'check_wear']
def N_is_even : List Str := ["wear", "copies", "value"]
def ps_is_even : List Str := ["wear", "copies", "value"]
def a_is_even : Ss := (.cons (.exp (.cal "check_wear" (.cons false (.slot 0) (.cons false (.slot 1) .nil)))) (.cons (.ret (.and (.cons false (.cal "is_choice" (.cons false (.slot 1) (.cons false (.slot 2) .nil))) (.cons false (.cmp .is_ (.cal "better" (.cons false (.slot 0) (.cons false (.slot 1) (.cons false (.slot 2) .nil)))) (.con .non)) .nil)))) .nil))
-- calls: ['better', 'is_choice', 'check_wear']
def N_chain : List Str := ["wear", "copies", "value"]
def ps_chain : List Str := ["wear", "copies", "value"]
def a_chain : Ss := (.cons (.exp (.cal "check_wear" (.cons false (.slot 0) (.cons false (.slot 1) .nil)))) (.cons (.ife (.not (.cal "is_choice" (.cons false (.slot 1) (.cons false (.slot 2) .nil)))) (.cons .bad .nil) .nil) (.cons (.ret (.cal "better" (.cons false (.slot 0) (.cons false (.slot 1) (.cons false (.slot 2) .nil))))) .nil)))
-- calls: ['better', 'is_choice', 'check_wear']
def N_lot_for : List Str := ["wear", "copies", "choice", "now", "tapes", "ask", "tape"]
def ps_lot_for : List Str := ["wear", "copies", "choice"]
def a_lot_for : Ss := (.cons (.set false 3 (.cal "loads" (.cons false (.slot 0) (.cons false (.slot 2) .nil)))) (.cons (.ife (.cmp .eq (.bi .max (.cons false (.slot 3) .nil)) (.bi .max (.cons false (.slot 0) .nil))) (.cons (.ret (.tup .nil)) .nil) .nil) (.cons (.set false 4 (.cal "reached" (.cons false (.slot 1) (.cons false (.slot 2) (.cons false (.mix (.slot 3) (.bi .max (.cons false (.slot 3) .nil))) .nil))))) (.cons (.ret (.bi .tuple (.cons false (.lc (.slot 5) (.tup (.cons (.nm 5) (.cons (.nm 6) .nil))) (.enum (.slot 2)) (.so (.cmp .in_ (.slot 6) (.slot 4))) [5, 6]) .nil))) .nil))))
-- calls: ['reached', 'loads']
def N_least_wear : List Str := ["wear", "copies", "choice"]
def ps_least_wear : List Str := ["wear", "copies"]
def a_least_wear : Ss := (.cons (.set false 2 (.cal "even_choice" (.cons false (.slot 0) (.cons false (.slot 1) .nil)))) (.cons (.ret (.tup (.cons false (.bi .max (.cons false (.cal "loads" (.cons false (.slot 0) (.cons false (.slot 2) .nil))) .nil)) (.cons false (.slot 2) (.cons false (.cal "lot_for" (.cons false (.slot 0) (.cons false (.slot 1) (.cons false (.slot 2) .nil)))) .nil))))) .nil))
-- calls: ['lot_for', 'loads', 'even_choice']
def N_asks_for : List Str := ["wear", "copies", "lot", "tapes", "ask", "level", "some", "left", "tape", "one"]
def ps_asks_for : List Str := ["wear", "copies", "lot"]
def a_asks_for : Ss := (.cons (.set true 3 (.dnw false)) (.cons (.forr (.nm 4) (.seq (.slot 2)) (.cons (.dupd 3 (.dc (.slot 8) (.con (.bl true)) (.nm 8) (.seq (.idx (.slot 1) (.slot 4))) [8])) .nil)) (.cons (.par2 false false 6 7 (.lc (.idx (.slot 0) (.slot 8)) (.nm 8) (.keys (.slot 3)) .no [8]) (.bi .len (.cons false (.slot 2) .nil))) (.cons (.set false 5 (.ife (.cmp .ne (.slot 6) (.lst .nil)) (.bi .min (.cons false (.slot 6) .nil)) (.con (.int 0)))) (.cons (.whil (.cmp .gt (.slot 7) (.con (.int 0))) (.cons (.set false 5 (.bin .add (.slot 5) (.con (.int 1)))) (.cons (.set false 7 (.bin .sub (.bi .len (.cons false (.slot 2) .nil)) (.bi .sum (.cons false (.lc (.bin .sub (.slot 5) (.slot 9)) (.nm 9) (.seq (.slot 6)) (.so (.cmp .lt (.slot 9) (.slot 5))) [9]) .nil)))) .nil))) (.cons (.ret (.slot 5)) .nil))))))
-- calls: []
def N_check_lot : List Str := ["copies", "value", "one"]
def ps_check_lot : List Str := ["copies", "value"]
def a_check_lot : Ss := (.cons (.ife (.or (.cons false (.not (.cal "is_tuple" (.cons false (.slot 1) (.cons false (.con (.int 0)) (.cons false (.bi .len (.cons false (.slot 0) .nil)) .nil))))) (.cons false (.not (.bi .all (.cons false (.lc (.cal "is_integer" (.cons false (.slot 2) (.cons false (.con (.int 0)) (.cons false (.bin .sub (.bi .len (.cons false (.slot 0) .nil)) (.con (.int 1))) .nil)))) (.nm 2) (.seq (.slot 1)) .no [2]) .nil))) .nil))) (.cons .bad .nil) .nil) (.cons (.ife (.not (.cal "is_rising" (.cons false (.slot 1) .nil))) (.cons .bad .nil) .nil) .nil))
-- calls: ['is_rising', 'is_integer', 'is_tuple']
def N_needs : List Str := ["wear", "copies", "lot"]
def ps_needs : List Str := ["wear", "copies", "lot"]
def a_needs : Ss := (.cons (.exp (.cal "check_wear" (.cons false (.slot 0) (.cons false (.slot 1) .nil)))) (.cons (.exp (.cal "check_lot" (.cons false (.slot 1) (.cons false (.slot 2) .nil)))) (.cons (.ret (.cal "asks_for" (.cons false (.slot 0) (.cons false (.slot 1) (.cons false (.slot 2) .nil))))) .nil)))
-- calls: ['asks_for', 'check_lot', 'check_wear']
def N_shows_least : List Str := ["wear", "copies", "value", "most", "choice", "lot", "one"]
def ps_shows_least : List Str := ["wear", "copies", "value"]
def a_shows_least : Ss := (.cons (.exp (.cal "check_wear" (.cons false (.slot 0) (.cons false (.slot 1) .nil)))) (.cons (.ife (.or (.cons false (.not (.cal "is_tuple" (.cons false (.slot 2) (.cons false (.glo "TRIPLE" (.int 3)) (.cons false (.glo "TRIPLE" (.int 3)) .nil))))) (.cons false (.not (.cal "is_integer" (.cons false (.idx (.slot 2) (.con (.int 0))) (.cons false (.con (.int 0)) (.cons false (.bin .mul (.glo "PAIR" (.int 2)) (.glo "MOST_WEAR" (.int 1000000))) .nil))))) .nil))) (.cons (.ret (.con (.bl false))) .nil) .nil) (.cons (.asg (.tup (.cons (.nm 3) (.cons (.nm 4) (.cons (.nm 5) .nil)))) (.slot 2)) (.cons (.ife (.or (.cons false (.not (.cal "is_choice" (.cons false (.slot 1) (.cons false (.slot 4) .nil)))) (.cons false (.cmp .ne (.bi .max (.cons false (.cal "loads" (.cons false (.slot 0) (.cons false (.slot 4) .nil))) .nil)) (.slot 3)) .nil))) (.cons (.ret (.con (.bl false))) .nil) .nil) (.cons (.ife (.or (.cons false (.not (.cal "is_tuple" (.cons false (.slot 5) (.cons false (.con (.int 0)) (.cons false (.bi .len (.cons false (.slot 1) .nil)) .nil))))) (.cons false (.not (.bi .all (.cons false (.lc (.cal "is_integer" (.cons false (.slot 6) (.cons false (.con (.int 0)) (.cons false (.bin .sub (.bi .len (.cons false (.slot 1) .nil)) (.con (.int 1))) .nil)))) (.nm 6) (.seq (.slot 5)) .no [6]) .nil))) .nil))) (.cons (.ret (.con (.bl false))) .nil) .nil) (.cons (.ife (.not (.cal "is_rising" (.cons false (.slot 5) .nil))) (.cons (.ret (.con (.bl false))) .nil) .nil) (.cons (.ret (.ife (.cmp .eq (.slot 5) (.tup .nil)) (.cmp .eq (.slot 3) (.bi .max (.cons false (.slot 0) .nil))) (.cmp .eq (.cal "asks_for" (.cons false (.slot 0) (.cons false (.slot 1) (.cons false (.slot 5) .nil)))) (.slot 3)))) .nil)))))))
-- calls: ['asks_for', 'is_rising', 'is_integer', 'is_tuple', 'loads', 'is_choice', 'check_wear']
def N__law_take : List Str := ["pot", "upto", "prime", "blend", "digit"]
def ps__law_take : List Str := ["pot", "upto"]
def a__law_take : Ss := (.cons (.ife (.cmp .gt (.pget 0 0) (.con (.int 0))) (.cons (.set false 4 (.bin .mod (.bi .int (.cons false (.pget 0 0) .nil)) (.slot 1))) (.cons (.pput 0 0 (.bin .fdiv (.pget 0 0) (.slot 1))) (.cons (.ret (.slot 4)) .nil))) .nil) (.cons (.pput 0 2 (.bin .add (.pget 0 2) (.con (.int 1)))) (.cons (.set false 2 (.idx (.lst (.cons false (.con (.int 2147483647)) (.cons false (.con (.int 2147483629)) (.cons false (.con (.int 2147483587)) (.cons false (.con (.int 2147483579)) (.cons false (.con (.int 2147483563)) .nil)))))) (.bin .mod (.bi .int (.cons false (.pget 0 2) .nil)) (.con (.int 5))))) (.cons (.set false 3 (.bin .mod (.bi .int (.cons false (.bin .pow (.bi .int (.cons false (.bin .add (.bin .add (.pget 0 1) (.bin .mul (.bin .mul (.con (.int 94868)) (.pget 0 2)) (.pget 0 2))) (.con (.int 700))) .nil)) (.con (.int 3))) .nil)) (.slot 2))) (.cons (.set false 3 (.bin .mod (.bi .int (.cons false (.bin .mul (.slot 3) (.bin .add (.bin .mod (.bi .int (.cons false (.slot 3) .nil)) (.con (.int 10259))) (.bin .mul (.con (.int 122)) (.pget 0 2)))) .nil)) (.con (.int 2305843009213693907)))) (.cons (.ret (.bin .mod (.bi .int (.cons false (.bin .fdiv (.slot 3) (.con (.int 152))) .nil)) (.slot 1))) .nil))))))
-- calls: []
def N__law_of : List Str := ["pot", "some"]
def ps__law_of : List Str := ["pot", "some"]
def a__law_of : Ss := (.cons (.ret (.idx (.slot 1) (.cal "_law_take" (.cons false (.slot 0) (.cons false (.bi .len (.cons false (.slot 1) .nil)) .nil))))) .nil)
-- calls: ['_law_take']
def N__law_some : List Str := ["pot", "pool", "many", "lap", "rests", "found"]
def ps__law_some : List Str := ["pot", "pool", "many"]
def a__law_some : Ss := (.cons (.par2 true true 4 5 (.bi .list (.cons false (.slot 1) .nil)) (.lst .nil)) (.cons (.forr (.nm 3) (.rng1 (.slot 2)) (.cons (.appPop 5 4 (.cal "_law_take" (.cons false (.slot 0) (.cons false (.bi .len (.cons false (.slot 4) .nil)) .nil)))) .nil)) (.cons (.ret (.slot 5)) .nil)))
-- calls: ['_law_take']
def N__law_loads : List Str := ["wear", "choice", "found", "tape"]
def ps__law_loads : List Str := ["wear", "choice"]
def a__law_loads : Ss := (.cons (.set true 2 (.bi .list (.cons false (.slot 0) .nil))) (.cons (.forr (.nm 3) (.seq (.slot 1)) (.cons (.put 2 (.slot 3) (.bin .add (.idx (.slot 2) (.slot 3)) (.con (.int 1)))) .nil)) (.cons (.ret (.slot 2)) .nil)))
-- calls: []
def N__law_drawn : List Str := ["pot", "wear", "copies", "ask", "tape"]
def ps__law_drawn : List Str := ["pot"]
def a__law_drawn : Ss := (.cons (.set false 1 (.bi .tuple (.cons false (.lc (.cal "_law_take" (.cons false (.slot 0) (.cons false (.cal "_law_of" (.cons false (.slot 0) (.cons false (.lst (.cons false (.con (.int 2)) (.cons false (.con (.int 6)) .nil))) .nil))) .nil))) (.nm 4) (.rng1 (.con (.int 12))) .no [4]) .nil))) (.cons (.set true 2 (.lst .nil)) (.cons (.forr (.nm 3) (.rng1 (.con (.int 20))) (.cons (.app 2 (.bi .tuple (.cons false (.bi .sorted (.cons false (.cal "_law_some" (.cons false (.slot 0) (.cons false (.lr1 (.cal "_law_of" (.cons false (.slot 0) (.cons false (.lst (.cons false (.con (.int 3)) (.cons false (.con (.int 12)) .nil))) .nil)))) (.cons false (.bin .add (.con (.int 1)) (.cal "_law_take" (.cons false (.slot 0) (.cons false (.con (.int 3)) .nil)))) .nil)))) .nil)) .nil))) .nil)) (.cons (.ret (.tup (.cons false (.slot 1) (.cons false (.bi .tuple (.cons false (.slot 2) .nil)) .nil)))) .nil))))
-- calls: ['_law_some', '_law_take', '_law_of']
def N__law_room : List Str := ["wear", "copies", "lot", "some", "ask", "level", "tape"]
def ps__law_room : List Str := ["wear", "copies", "lot"]
def a__law_room : Ss := (.cons (.set true 3 (.lst .nil)) (.cons (.forr (.nm 4) (.seq (.slot 2)) (.cons (.ext 3 (.bi .list (.cons false (.idx (.slot 1) (.slot 4)) .nil))) .nil)) (.cons (.set false 5 (.con (.int 0))) (.cons (.whil (.cmp .lt (.bi .sum (.cons false (.lc (.bi .max (.cons false (.con (.int 0)) (.cons false (.bin .sub (.slot 5) (.idx (.slot 0) (.slot 6))) .nil))) (.nm 6) (.seq (.sset (.slot 3))) .no [6]) .nil)) (.bi .len (.cons false (.slot 2) .nil))) (.cons (.set false 5 (.bin .add (.slot 5) (.con (.int 1)))) .nil)) (.cons (.ret (.slot 5)) .nil)))))
-- calls: []
def N__law_right : List Str := ["pot", "names", "other", "its", "fewer", "much", "even", "loads_v", "new", "wear", "copies", "most", "choice", "lot", "tape", "name", "here", "steps", "some", "one", "two"]
def ps__law_right : List Str := ["pot"]
def a__law_right : Ss := (.cons (.asg (.tup (.cons (.nm 9) (.cons (.nm 10) .nil))) (.cal "_law_drawn" (.cons false (.slot 0) .nil))) (.cons (.asg (.tup (.cons (.nm 11) (.cons (.nm 12) (.cons (.nm 13) .nil)))) (.cal "least_wear" (.cons false (.slot 9) (.cons false (.slot 10) .nil)))) (.cons (.ife (.or (.cons false (.cmp .ne (.bi .max (.cons false (.cal "_law_loads" (.cons false (.slot 9) (.cons false (.slot 12) .nil))) .nil)) (.slot 11)) (.cons false (.not (.bi .all (.cons false (.lc (.cmp .in_ (.slot 14) (.slot 18)) (.tup (.cons (.nm 14) (.cons (.nm 18) .nil))) (.zip (.slot 12) (.slot 10)) .no [14, 18]) .nil))) .nil))) (.cons (.ret (.con (.bl false))) .nil) .nil) (.cons (.ife (.or (.cons false (.and (.cons false (.cmp .eq (.slot 13) (.tup .nil)) (.cons false (.cmp .ne (.slot 11) (.bi .max (.cons false (.slot 9) .nil))) .nil))) (.cons false (.and (.cons false (.cmp .ne (.slot 13) (.tup .nil)) (.cons false (.cmp .ne (.cal "_law_room" (.cons false (.slot 9) (.cons false (.slot 10) (.cons false (.slot 13) .nil)))) (.slot 11)) .nil))) .nil))) (.cons (.ret (.con (.bl false))) .nil) .nil) (.cons (.ife (.or (.cons false (.cmp .isnot (.cal "shows_least" (.cons false (.slot 9) (.cons false (.slot 10) (.cons false (.tup (.cons false (.slot 11) (.cons false (.slot 12) (.cons false (.slot 13) .nil)))) .nil)))) (.con (.bl true))) (.cons false (.and (.cons false (.cmp .ne (.slot 13) (.tup .nil)) (.cons false (.cmp .ne (.cal "needs" (.cons false (.slot 9) (.cons false (.slot 10) (.cons false (.slot 13) .nil)))) (.slot 11)) .nil))) .nil))) (.cons (.ret (.con (.bl false))) .nil) .nil) (.cons (.set false 1 (.cal "_law_some" (.cons false (.slot 0) (.cons false (.lr1 (.con (.int 12))) (.cons false (.con (.int 12)) .nil))))) (.cons (.set false 2 (.bi .tuple (.cons false (.lc (.bi .tuple (.cons false (.bi .sorted (.cons false (.lc (.idx (.slot 1) (.slot 14)) (.nm 14) (.seq (.slot 18)) .no [14]) .nil)) .nil)) (.nm 18) (.seq (.slot 10)) .no [18]) .nil))) (.cons (.set true 3 (.bin .mul (.lst (.cons false (.con (.int 0)) .nil)) (.con (.int 12)))) (.cons (.forr (.tup (.cons (.nm 14) (.cons (.nm 15) .nil))) (.enum (.slot 1)) (.cons (.put 3 (.slot 15) (.idx (.slot 9) (.slot 14))) .nil)) (.cons (.ife (.cmp .ne (.idx (.cal "least_wear" (.cons false (.bi .tuple (.cons false (.slot 3) .nil)) (.cons false (.slot 2) .nil))) (.con (.int 0))) (.slot 11)) (.cons (.ret (.con (.bl false))) .nil) .nil) (.cons (.set false 4 (.idx (.cal "least_wear" (.cons false (.slot 9) (.cons false (.slc (.slot 10) (.so (.con (.int 1))) .no) .nil))) (.con (.int 0)))) (.cons (.ife (.not (.chn .le .le (.bin .sub (.slot 11) (.con (.int 1))) (.slot 4) (.slot 11))) (.cons (.ret (.con (.bl false))) .nil) .nil) (.cons (.set false 5 (.cal "_law_take" (.cons false (.slot 0) (.cons false (.con (.int 1000)) .nil)))) (.cons (.ife (.cmp .ne (.idx (.cal "least_wear" (.cons false (.bi .tuple (.cons false (.lc (.bin .add (.slot 19) (.slot 5)) (.nm 19) (.seq (.slot 9)) .no [19]) .nil)) (.cons false (.slot 10) .nil))) (.con (.int 0))) (.bin .add (.slot 11) (.slot 5))) (.cons (.ret (.con (.bl false))) .nil) .nil) (.cons (.set false 6 (.cal "even_choice" (.cons false (.slot 9) (.cons false (.slot 10) .nil)))) (.cons (.set false 7 (.bi .sorted (.cons false (.cal "_law_loads" (.cons false (.slot 9) (.cons false (.slot 6) .nil))) .nil))) (.cons (.ife (.or (.cons false (.cmp .ne (.idx (.slot 7) (.neg (.con (.int 1)))) (.slot 11)) (.cons false (.cmp .isnot (.cal "is_even" (.cons false (.slot 9) (.cons false (.slot 10) (.cons false (.slot 6) .nil)))) (.con (.bl true))) .nil))) (.cons (.ret (.con (.bl false))) .nil) .nil) (.cons (.par2 false false 16 17 (.bi .tuple (.cons false (.lc (.cal "_law_of" (.cons false (.slot 0) (.cons false (.slot 18) .nil))) (.nm 18) (.seq (.slot 10)) .no [18]) .nil)) (.con (.int 0))) (.cons (.set false 8 (.cal "chain" (.cons false (.slot 9) (.cons false (.slot 10) (.cons false (.slot 16) .nil))))) (.cons (.whil (.and (.cons false (.cmp .isnot (.slot 8) (.con .non)) (.cons false (.cmp .lt (.slot 17) (.con (.int 200))) .nil))) (.cons (.ife (.cmp .lt (.bi .len (.cons false (.lc (.con (.int 1)) (.tup (.cons (.nm 19) (.cons (.nm 20) .nil))) (.zip (.slot 16) (.slot 8)) (.so (.cmp .ne (.slot 19) (.slot 20))) [19, 20]) .nil)) (.con (.int 1))) (.cons (.ret (.con (.bl false))) .nil) .nil) (.cons (.par2 false false 16 17 (.slot 8) (.bin .add (.slot 17) (.con (.int 1)))) (.cons (.set false 8 (.cal "chain" (.cons false (.slot 9) (.cons false (.slot 10) (.cons false (.slot 16) .nil))))) .nil)))) (.cons (.ret (.and (.cons false (.cmp .is_ (.slot 8) (.con .non)) (.cons false (.cmp .eq (.bi .sorted (.cons false (.cal "_law_loads" (.cons false (.slot 9) (.cons false (.slot 16) .nil))) .nil)) (.slot 7)) .nil)))) .nil)))))))))))))))))))))
-- calls: ['_law_loads', 'chain', '_law_of', 'is_even', 'even_choice', 'least_wear', '_law_take', '_law_some', 'needs', 'shows_least', '_law_room', '_law_drawn']
-- skipped: _law_pot
-- skipped: law
-- skipped: _law_places
end K62
namespace K62
open PySem PySem.Spec PyProof.Rows L2 Ev
theorem sc_is_tuple : FnScope N_is_tuple ps_is_tuple (defScope K62H.s_is_tuple) := ⟨rfl, rfl, rfl, by decide +kernel, rfl, by decide +kernel, by decide +kernel⟩
theorem ck_is_tuple : chkSs (gcN glo []) a_is_tuple ⟨N_is_tuple, defScope K62H.s_is_tuple, fun _ => true⟩ (defBody K62H.s_is_tuple) = true := by decide +kernel
noncomputable def Φ_is_tuple (n : Nat) : Str → Option Fn := phL []
noncomputable def F_is_tuple (n : Nat) : Fn := fnF (Φ_is_tuple n) n N_is_tuple.length ps_is_tuple.length a_is_tuple
theorem sc_is_whole : FnScope N_is_whole ps_is_whole (defScope K62H.s_is_whole) := ⟨rfl, rfl, rfl, by decide +kernel, rfl, by decide +kernel, by decide +kernel⟩
theorem ck_is_whole : chkSs (gcN glo []) a_is_whole ⟨N_is_whole, defScope K62H.s_is_whole, fun _ => true⟩ (defBody K62H.s_is_whole) = true := by decide +kernel
noncomputable def Φ_is_whole (n : Nat) : Str → Option Fn := phL []
noncomputable def F_is_whole (n : Nat) : Fn := fnF (Φ_is_whole n) n N_is_whole.length ps_is_whole.length a_is_whole
theorem sc_is_integer : FnScope N_is_integer ps_is_integer (defScope K62H.s_is_integer) := ⟨rfl, rfl, rfl, by decide +kernel, rfl, by decide +kernel, by decide +kernel⟩
theorem ck_is_integer : chkSs (gcN glo ["is_whole"]) a_is_integer ⟨N_is_integer, defScope K62H.s_is_integer, fun _ => true⟩ (defBody K62H.s_is_integer) = true := by decide +kernel
noncomputable def Φ_is_integer (n : Nat) : Str → Option Fn := phL [("is_whole", F_is_whole n)]
noncomputable def F_is_integer (n : Nat) : Fn := fnF (Φ_is_integer n) n N_is_integer.length ps_is_integer.length a_is_integer
@[simp] theorem Φ_is_integer_is_whole (n : Nat) : Φ_is_integer n "is_whole" = some (F_is_whole n) := (rfl)
theorem sc_is_rising : FnScope N_is_rising ps_is_rising (defScope K62H.s_is_rising) := ⟨rfl, rfl, rfl, by decide +kernel, rfl, by decide +kernel, by decide +kernel⟩
theorem ck_is_rising : chkSs (gcN glo []) a_is_rising ⟨N_is_rising, defScope K62H.s_is_rising, fun _ => true⟩ (defBody K62H.s_is_rising) = true := by decide +kernel
noncomputable def Φ_is_rising (n : Nat) : Str → Option Fn := phL []
noncomputable def F_is_rising (n : Nat) : Fn := fnF (Φ_is_rising n) n N_is_rising.length ps_is_rising.length a_is_rising
theorem sc_is_copy : FnScope N_is_copy ps_is_copy (defScope K62H.s_is_copy) := ⟨rfl, rfl, rfl, by decide +kernel, rfl, by decide +kernel, by decide +kernel⟩
theorem ck_is_copy : chkSs (gcN glo ["is_rising", "is_integer", "is_tuple"]) a_is_copy ⟨N_is_copy, defScope K62H.s_is_copy, fun _ => true⟩ (defBody K62H.s_is_copy) = true := by decide +kernel
noncomputable def Φ_is_copy (n : Nat) : Str → Option Fn := phL [("is_rising", F_is_rising n), ("is_integer", F_is_integer n), ("is_tuple", F_is_tuple n)]
noncomputable def F_is_copy (n : Nat) : Fn := fnF (Φ_is_copy n) n N_is_copy.length ps_is_copy.length a_is_copy
@[simp] theorem Φ_is_copy_is_rising (n : Nat) : Φ_is_copy n "is_rising" = some (F_is_rising n) := (rfl)
@[simp] theorem Φ_is_copy_is_integer (n : Nat) : Φ_is_copy n "is_integer" = some (F_is_integer n) := (rfl)
@[simp] theorem Φ_is_copy_is_tuple (n : Nat) : Φ_is_copy n "is_tuple" = some (F_is_tuple n) := (rfl)
theorem sc_check_wear : FnScope N_check_wear ps_check_wear (defScope K62H.s_check_wear) := ⟨rfl, rfl, rfl, by decide +kernel, rfl, by decide +kernel, by decide +kernel⟩
theorem ck_check_wear : chkSs (gcN glo ["is_copy", "is_tuple", "is_integer"]) a_check_wear ⟨N_check_wear, defScope K62H.s_check_wear, fun _ => true⟩ (defBody K62H.s_check_wear) = true := by decide +kernel
noncomputable def Φ_check_wear (n : Nat) : Str → Option Fn := phL [("is_copy", F_is_copy n), ("is_tuple", F_is_tuple n), ("is_integer", F_is_integer n)]
noncomputable def F_check_wear (n : Nat) : Fn := fnF (Φ_check_wear n) n N_check_wear.length ps_check_wear.length a_check_wear
@[simp] theorem Φ_check_wear_is_copy (n : Nat) : Φ_check_wear n "is_copy" = some (F_is_copy n) := (rfl)
@[simp] theorem Φ_check_wear_is_tuple (n : Nat) : Φ_check_wear n "is_tuple" = some (F_is_tuple n) := (rfl)
@[simp] theorem Φ_check_wear_is_integer (n : Nat) : Φ_check_wear n "is_integer" = some (F_is_integer n) := (rfl)
theorem sc_is_choice : FnScope N_is_choice ps_is_choice (defScope K62H.s_is_choice) := ⟨rfl, rfl, rfl, by decide +kernel, rfl, by decide +kernel, by decide +kernel⟩
theorem ck_is_choice : chkSs (gcN glo ["is_integer", "is_tuple"]) a_is_choice ⟨N_is_choice, defScope K62H.s_is_choice, fun _ => true⟩ (defBody K62H.s_is_choice) = true := by decide +kernel
noncomputable def Φ_is_choice (n : Nat) : Str → Option Fn := phL [("is_integer", F_is_integer n), ("is_tuple", F_is_tuple n)]
noncomputable def F_is_choice (n : Nat) : Fn := fnF (Φ_is_choice n) n N_is_choice.length ps_is_choice.length a_is_choice
@[simp] theorem Φ_is_choice_is_integer (n : Nat) : Φ_is_choice n "is_integer" = some (F_is_integer n) := (rfl)
@[simp] theorem Φ_is_choice_is_tuple (n : Nat) : Φ_is_choice n "is_tuple" = some (F_is_tuple n) := (rfl)
theorem sc_loads : FnScope N_loads ps_loads (defScope K62H.s_loads) := ⟨rfl, rfl, rfl, by decide +kernel, rfl, by decide +kernel, by decide +kernel⟩
theorem ck_loads : chkSs (gcN glo []) a_loads ⟨N_loads, defScope K62H.s_loads, fun _ => true⟩ (defBody K62H.s_loads) = true := by decide +kernel
noncomputable def Φ_loads (n : Nat) : Str → Option Fn := phL []
noncomputable def F_loads (n : Nat) : Fn := fnF (Φ_loads n) n N_loads.length ps_loads.length a_loads
theorem sc_reached : FnScope N_reached ps_reached (defScope K62H.s_reached) := ⟨rfl, rfl, rfl, by decide +kernel, rfl, by decide +kernel, by decide +kernel⟩
theorem ck_reached : chkSs (gcN glo []) a_reached ⟨N_reached, defScope K62H.s_reached, fun _ => true⟩ (defBody K62H.s_reached) = true := by decide +kernel
noncomputable def Φ_reached (n : Nat) : Str → Option Fn := phL []
noncomputable def F_reached (n : Nat) : Fn := fnF (Φ_reached n) n N_reached.length ps_reached.length a_reached
theorem sc_moved : FnScope N_moved ps_moved (defScope K62H.s_moved) := ⟨rfl, rfl, rfl, by decide +kernel, rfl, by decide +kernel, by decide +kernel⟩
theorem ck_moved : chkSs (gcN glo []) a_moved ⟨N_moved, defScope K62H.s_moved, fun _ => true⟩ (defBody K62H.s_moved) = true := by decide +kernel
noncomputable def Φ_moved (n : Nat) : Str → Option Fn := phL []
noncomputable def F_moved (n : Nat) : Fn := fnF (Φ_moved n) n N_moved.length ps_moved.length a_moved
theorem sc_better : FnScope N_better ps_better (defScope K62H.s_better) := ⟨rfl, rfl, rfl, by decide +kernel, rfl, by decide +kernel, by decide +kernel⟩
theorem ck_better : chkSs (gcN glo ["moved", "reached", "loads"]) a_better ⟨N_better, defScope K62H.s_better, fun _ => true⟩ (defBody K62H.s_better) = true := by decide +kernel
noncomputable def Φ_better (n : Nat) : Str → Option Fn := phL [("moved", F_moved n), ("reached", F_reached n), ("loads", F_loads n)]
noncomputable def F_better (n : Nat) : Fn := fnF (Φ_better n) n N_better.length ps_better.length a_better
@[simp] theorem Φ_better_moved (n : Nat) : Φ_better n "moved" = some (F_moved n) := (rfl)
@[simp] theorem Φ_better_reached (n : Nat) : Φ_better n "reached" = some (F_reached n) := (rfl)
@[simp] theorem Φ_better_loads (n : Nat) : Φ_better n "loads" = some (F_loads n) := (rfl)
theorem sc_even_of : FnScope N_even_of ps_even_of (defScope K62H.s_even_of) := ⟨rfl, rfl, rfl, by decide +kernel, rfl, by decide +kernel, by decide +kernel⟩
theorem ck_even_of : chkSs (gcN glo ["better", "loads"]) a_even_of ⟨N_even_of, defScope K62H.s_even_of, fun _ => true⟩ (defBody K62H.s_even_of) = true := by decide +kernel
noncomputable def Φ_even_of (n : Nat) : Str → Option Fn := phL [("better", F_better n), ("loads", F_loads n)]
noncomputable def F_even_of (n : Nat) : Fn := fnF (Φ_even_of n) n N_even_of.length ps_even_of.length a_even_of
@[simp] theorem Φ_even_of_better (n : Nat) : Φ_even_of n "better" = some (F_better n) := (rfl)
@[simp] theorem Φ_even_of_loads (n : Nat) : Φ_even_of n "loads" = some (F_loads n) := (rfl)
theorem sc_even_choice : FnScope N_even_choice ps_even_choice (defScope K62H.s_even_choice) := ⟨rfl, rfl, rfl, by decide +kernel, rfl, by decide +kernel, by decide +kernel⟩
theorem ck_even_choice : chkSs (gcN glo ["even_of", "check_wear"]) a_even_choice ⟨N_even_choice, defScope K62H.s_even_choice, fun _ => true⟩ (defBody K62H.s_even_choice) = true := by decide +kernel
noncomputable def Φ_even_choice (n : Nat) : Str → Option Fn := phL [("even_of", F_even_of n), ("check_wear", F_check_wear n)]
noncomputable def F_even_choice (n : Nat) : Fn := fnF (Φ_even_choice n) n N_even_choice.length ps_even_choice.length a_even_choice
@[simp] theorem Φ_even_choice_even_of (n : Nat) : Φ_even_choice n "even_of" = some (F_even_of n) := (rfl)
@[simp] theorem Φ_even_choice_check_wear (n : Nat) : Φ_even_choice n "check_wear" = some (F_check_wear n) := (rfl)
theorem sc_is_even : FnScope N_is_even ps_is_even (defScope K62H.s_is_even) := ⟨rfl, rfl, rfl, by decide +kernel, rfl, by decide +kernel, by decide +kernel⟩
theorem ck_is_even : chkSs (gcN glo ["better", "is_choice", "check_wear"]) a_is_even ⟨N_is_even, defScope K62H.s_is_even, fun _ => true⟩ (defBody K62H.s_is_even) = true := by decide +kernel
noncomputable def Φ_is_even (n : Nat) : Str → Option Fn := phL [("better", F_better n), ("is_choice", F_is_choice n), ("check_wear", F_check_wear n)]
noncomputable def F_is_even (n : Nat) : Fn := fnF (Φ_is_even n) n N_is_even.length ps_is_even.length a_is_even
@[simp] theorem Φ_is_even_better (n : Nat) : Φ_is_even n "better" = some (F_better n) := (rfl)
@[simp] theorem Φ_is_even_is_choice (n : Nat) : Φ_is_even n "is_choice" = some (F_is_choice n) := (rfl)
@[simp] theorem Φ_is_even_check_wear (n : Nat) : Φ_is_even n "check_wear" = some (F_check_wear n) := (rfl)
theorem sc_chain : FnScope N_chain ps_chain (defScope K62H.s_chain) := ⟨rfl, rfl, rfl, by decide +kernel, rfl, by decide +kernel, by decide +kernel⟩
theorem ck_chain : chkSs (gcN glo ["better", "is_choice", "check_wear"]) a_chain ⟨N_chain, defScope K62H.s_chain, fun _ => true⟩ (defBody K62H.s_chain) = true := by decide +kernel
noncomputable def Φ_chain (n : Nat) : Str → Option Fn := phL [("better", F_better n), ("is_choice", F_is_choice n), ("check_wear", F_check_wear n)]
noncomputable def F_chain (n : Nat) : Fn := fnF (Φ_chain n) n N_chain.length ps_chain.length a_chain
@[simp] theorem Φ_chain_better (n : Nat) : Φ_chain n "better" = some (F_better n) := (rfl)
@[simp] theorem Φ_chain_is_choice (n : Nat) : Φ_chain n "is_choice" = some (F_is_choice n) := (rfl)
@[simp] theorem Φ_chain_check_wear (n : Nat) : Φ_chain n "check_wear" = some (F_check_wear n) := (rfl)
theorem sc_lot_for : FnScope N_lot_for ps_lot_for (defScope K62H.s_lot_for) := ⟨rfl, rfl, rfl, by decide +kernel, rfl, by decide +kernel, by decide +kernel⟩
theorem ck_lot_for : chkSs (gcN glo ["reached", "loads"]) a_lot_for ⟨N_lot_for, defScope K62H.s_lot_for, fun _ => true⟩ (defBody K62H.s_lot_for) = true := by decide +kernel
noncomputable def Φ_lot_for (n : Nat) : Str → Option Fn := phL [("reached", F_reached n), ("loads", F_loads n)]
noncomputable def F_lot_for (n : Nat) : Fn := fnF (Φ_lot_for n) n N_lot_for.length ps_lot_for.length a_lot_for
@[simp] theorem Φ_lot_for_reached (n : Nat) : Φ_lot_for n "reached" = some (F_reached n) := (rfl)
@[simp] theorem Φ_lot_for_loads (n : Nat) : Φ_lot_for n "loads" = some (F_loads n) := (rfl)
theorem sc_least_wear : FnScope N_least_wear ps_least_wear (defScope K62H.s_least_wear) := ⟨rfl, rfl, rfl, by decide +kernel, rfl, by decide +kernel, by decide +kernel⟩
theorem ck_least_wear : chkSs (gcN glo ["lot_for", "loads", "even_choice"]) a_least_wear ⟨N_least_wear, defScope K62H.s_least_wear, fun _ => true⟩ (defBody K62H.s_least_wear) = true := by decide +kernel
noncomputable def Φ_least_wear (n : Nat) : Str → Option Fn := phL [("lot_for", F_lot_for n), ("loads", F_loads n), ("even_choice", F_even_choice n)]
noncomputable def F_least_wear (n : Nat) : Fn := fnF (Φ_least_wear n) n N_least_wear.length ps_least_wear.length a_least_wear
@[simp] theorem Φ_least_wear_lot_for (n : Nat) : Φ_least_wear n "lot_for" = some (F_lot_for n) := (rfl)
@[simp] theorem Φ_least_wear_loads (n : Nat) : Φ_least_wear n "loads" = some (F_loads n) := (rfl)
@[simp] theorem Φ_least_wear_even_choice (n : Nat) : Φ_least_wear n "even_choice" = some (F_even_choice n) := (rfl)
theorem sc_asks_for : FnScope N_asks_for ps_asks_for (defScope K62H.s_asks_for) := ⟨rfl, rfl, rfl, by decide +kernel, rfl, by decide +kernel, by decide +kernel⟩
theorem ck_asks_for : chkSs (gcN glo []) a_asks_for ⟨N_asks_for, defScope K62H.s_asks_for, fun _ => true⟩ (defBody K62H.s_asks_for) = true := by decide +kernel
noncomputable def Φ_asks_for (n : Nat) : Str → Option Fn := phL []
noncomputable def F_asks_for (n : Nat) : Fn := fnF (Φ_asks_for n) n N_asks_for.length ps_asks_for.length a_asks_for
theorem sc_check_lot : FnScope N_check_lot ps_check_lot (defScope K62H.s_check_lot) := ⟨rfl, rfl, rfl, by decide +kernel, rfl, by decide +kernel, by decide +kernel⟩
theorem ck_check_lot : chkSs (gcN glo ["is_rising", "is_integer", "is_tuple"]) a_check_lot ⟨N_check_lot, defScope K62H.s_check_lot, fun _ => true⟩ (defBody K62H.s_check_lot) = true := by decide +kernel
noncomputable def Φ_check_lot (n : Nat) : Str → Option Fn := phL [("is_rising", F_is_rising n), ("is_integer", F_is_integer n), ("is_tuple", F_is_tuple n)]
noncomputable def F_check_lot (n : Nat) : Fn := fnF (Φ_check_lot n) n N_check_lot.length ps_check_lot.length a_check_lot
@[simp] theorem Φ_check_lot_is_rising (n : Nat) : Φ_check_lot n "is_rising" = some (F_is_rising n) := (rfl)
@[simp] theorem Φ_check_lot_is_integer (n : Nat) : Φ_check_lot n "is_integer" = some (F_is_integer n) := (rfl)
@[simp] theorem Φ_check_lot_is_tuple (n : Nat) : Φ_check_lot n "is_tuple" = some (F_is_tuple n) := (rfl)
theorem sc_needs : FnScope N_needs ps_needs (defScope K62H.s_needs) := ⟨rfl, rfl, rfl, by decide +kernel, rfl, by decide +kernel, by decide +kernel⟩
theorem ck_needs : chkSs (gcN glo ["asks_for", "check_lot", "check_wear"]) a_needs ⟨N_needs, defScope K62H.s_needs, fun _ => true⟩ (defBody K62H.s_needs) = true := by decide +kernel
noncomputable def Φ_needs (n : Nat) : Str → Option Fn := phL [("asks_for", F_asks_for n), ("check_lot", F_check_lot n), ("check_wear", F_check_wear n)]
noncomputable def F_needs (n : Nat) : Fn := fnF (Φ_needs n) n N_needs.length ps_needs.length a_needs
@[simp] theorem Φ_needs_asks_for (n : Nat) : Φ_needs n "asks_for" = some (F_asks_for n) := (rfl)
@[simp] theorem Φ_needs_check_lot (n : Nat) : Φ_needs n "check_lot" = some (F_check_lot n) := (rfl)
@[simp] theorem Φ_needs_check_wear (n : Nat) : Φ_needs n "check_wear" = some (F_check_wear n) := (rfl)
theorem sc_shows_least : FnScope N_shows_least ps_shows_least (defScope K62H.s_shows_least) := ⟨rfl, rfl, rfl, by decide +kernel, rfl, by decide +kernel, by decide +kernel⟩
theorem ck_shows_least : chkSs (gcN glo ["asks_for", "is_rising", "is_integer", "is_tuple", "loads", "is_choice", "check_wear"]) a_shows_least ⟨N_shows_least, defScope K62H.s_shows_least, fun _ => true⟩ (defBody K62H.s_shows_least) = true := by decide +kernel
noncomputable def Φ_shows_least (n : Nat) : Str → Option Fn := phL [("asks_for", F_asks_for n), ("is_rising", F_is_rising n), ("is_integer", F_is_integer n), ("is_tuple", F_is_tuple n), ("loads", F_loads n), ("is_choice", F_is_choice n), ("check_wear", F_check_wear n)]
noncomputable def F_shows_least (n : Nat) : Fn := fnF (Φ_shows_least n) n N_shows_least.length ps_shows_least.length a_shows_least
@[simp] theorem Φ_shows_least_asks_for (n : Nat) : Φ_shows_least n "asks_for" = some (F_asks_for n) := (rfl)
@[simp] theorem Φ_shows_least_is_rising (n : Nat) : Φ_shows_least n "is_rising" = some (F_is_rising n) := (rfl)
@[simp] theorem Φ_shows_least_is_integer (n : Nat) : Φ_shows_least n "is_integer" = some (F_is_integer n) := (rfl)
@[simp] theorem Φ_shows_least_is_tuple (n : Nat) : Φ_shows_least n "is_tuple" = some (F_is_tuple n) := (rfl)
@[simp] theorem Φ_shows_least_loads (n : Nat) : Φ_shows_least n "loads" = some (F_loads n) := (rfl)
@[simp] theorem Φ_shows_least_is_choice (n : Nat) : Φ_shows_least n "is_choice" = some (F_is_choice n) := (rfl)
@[simp] theorem Φ_shows_least_check_wear (n : Nat) : Φ_shows_least n "check_wear" = some (F_check_wear n) := (rfl)
theorem sc__law_take : FnScope N__law_take ps__law_take (defScope K62H.s__law_take) := ⟨rfl, rfl, rfl, by decide +kernel, rfl, by decide +kernel, by decide +kernel⟩
theorem ck__law_take : chkSs (gcN glo []) a__law_take ⟨N__law_take, defScope K62H.s__law_take, fun _ => true⟩ (defBody K62H.s__law_take) = true := by decide +kernel
noncomputable def Φ__law_take (n : Nat) : Str → Option Fn := phL []
noncomputable def F__law_take (n : Nat) : Fn := fnF (Φ__law_take n) n N__law_take.length ps__law_take.length a__law_take
theorem sc__law_of : FnScope N__law_of ps__law_of (defScope K62H.s__law_of) := ⟨rfl, rfl, rfl, by decide +kernel, rfl, by decide +kernel, by decide +kernel⟩
theorem ck__law_of : chkSs (gcN glo ["_law_take"]) a__law_of ⟨N__law_of, defScope K62H.s__law_of, fun _ => true⟩ (defBody K62H.s__law_of) = true := by decide +kernel
noncomputable def Φ__law_of (n : Nat) : Str → Option Fn := phL [("_law_take", F__law_take n)]
noncomputable def F__law_of (n : Nat) : Fn := fnF (Φ__law_of n) n N__law_of.length ps__law_of.length a__law_of
@[simp] theorem Φ__law_of__law_take (n : Nat) : Φ__law_of n "_law_take" = some (F__law_take n) := (rfl)
theorem sc__law_some : FnScope N__law_some ps__law_some (defScope K62H.s__law_some) := ⟨rfl, rfl, rfl, by decide +kernel, rfl, by decide +kernel, by decide +kernel⟩
theorem ck__law_some : chkSs (gcN glo ["_law_take"]) a__law_some ⟨N__law_some, defScope K62H.s__law_some, fun _ => true⟩ (defBody K62H.s__law_some) = true := by decide +kernel
noncomputable def Φ__law_some (n : Nat) : Str → Option Fn := phL [("_law_take", F__law_take n)]
noncomputable def F__law_some (n : Nat) : Fn := fnF (Φ__law_some n) n N__law_some.length ps__law_some.length a__law_some
@[simp] theorem Φ__law_some__law_take (n : Nat) : Φ__law_some n "_law_take" = some (F__law_take n) := (rfl)
theorem sc__law_loads : FnScope N__law_loads ps__law_loads (defScope K62H.s__law_loads) := ⟨rfl, rfl, rfl, by decide +kernel, rfl, by decide +kernel, by decide +kernel⟩
theorem ck__law_loads : chkSs (gcN glo []) a__law_loads ⟨N__law_loads, defScope K62H.s__law_loads, fun _ => true⟩ (defBody K62H.s__law_loads) = true := by decide +kernel
noncomputable def Φ__law_loads (n : Nat) : Str → Option Fn := phL []
noncomputable def F__law_loads (n : Nat) : Fn := fnF (Φ__law_loads n) n N__law_loads.length ps__law_loads.length a__law_loads
theorem sc__law_drawn : FnScope N__law_drawn ps__law_drawn (defScope K62H.s__law_drawn) := ⟨rfl, rfl, rfl, by decide +kernel, rfl, by decide +kernel, by decide +kernel⟩
theorem ck__law_drawn : chkSs (gcN glo ["_law_some", "_law_take", "_law_of"]) a__law_drawn ⟨N__law_drawn, defScope K62H.s__law_drawn, fun _ => true⟩ (defBody K62H.s__law_drawn) = true := by decide +kernel
noncomputable def Φ__law_drawn (n : Nat) : Str → Option Fn := phL [("_law_some", F__law_some n), ("_law_take", F__law_take n), ("_law_of", F__law_of n)]
noncomputable def F__law_drawn (n : Nat) : Fn := fnF (Φ__law_drawn n) n N__law_drawn.length ps__law_drawn.length a__law_drawn
@[simp] theorem Φ__law_drawn__law_some (n : Nat) : Φ__law_drawn n "_law_some" = some (F__law_some n) := (rfl)
@[simp] theorem Φ__law_drawn__law_take (n : Nat) : Φ__law_drawn n "_law_take" = some (F__law_take n) := (rfl)
@[simp] theorem Φ__law_drawn__law_of (n : Nat) : Φ__law_drawn n "_law_of" = some (F__law_of n) := (rfl)
theorem sc__law_room : FnScope N__law_room ps__law_room (defScope K62H.s__law_room) := ⟨rfl, rfl, rfl, by decide +kernel, rfl, by decide +kernel, by decide +kernel⟩
theorem ck__law_room : chkSs (gcN glo []) a__law_room ⟨N__law_room, defScope K62H.s__law_room, fun _ => true⟩ (defBody K62H.s__law_room) = true := by decide +kernel
noncomputable def Φ__law_room (n : Nat) : Str → Option Fn := phL []
noncomputable def F__law_room (n : Nat) : Fn := fnF (Φ__law_room n) n N__law_room.length ps__law_room.length a__law_room
theorem sc__law_right : FnScope N__law_right ps__law_right (defScope K62H.s__law_right) := ⟨rfl, rfl, rfl, by decide +kernel, rfl, by decide +kernel, by decide +kernel⟩
theorem ck__law_right : chkSs (gcN glo ["_law_loads", "chain", "_law_of", "is_even", "even_choice", "least_wear", "_law_take", "_law_some", "needs", "shows_least", "_law_room", "_law_drawn"]) a__law_right ⟨N__law_right, defScope K62H.s__law_right, fun _ => true⟩ (defBody K62H.s__law_right) = true := by decide +kernel
noncomputable def Φ__law_right (n : Nat) : Str → Option Fn := phL [("_law_loads", F__law_loads n), ("chain", F_chain n), ("_law_of", F__law_of n), ("is_even", F_is_even n), ("even_choice", F_even_choice n), ("least_wear", F_least_wear n), ("_law_take", F__law_take n), ("_law_some", F__law_some n), ("needs", F_needs n), ("shows_least", F_shows_least n), ("_law_room", F__law_room n), ("_law_drawn", F__law_drawn n)]
noncomputable def F__law_right (n : Nat) : Fn := fnF (Φ__law_right n) n N__law_right.length ps__law_right.length a__law_right
@[simp] theorem Φ__law_right__law_loads (n : Nat) : Φ__law_right n "_law_loads" = some (F__law_loads n) := (rfl)
@[simp] theorem Φ__law_right_chain (n : Nat) : Φ__law_right n "chain" = some (F_chain n) := (rfl)
@[simp] theorem Φ__law_right__law_of (n : Nat) : Φ__law_right n "_law_of" = some (F__law_of n) := (rfl)
@[simp] theorem Φ__law_right_is_even (n : Nat) : Φ__law_right n "is_even" = some (F_is_even n) := (rfl)
@[simp] theorem Φ__law_right_even_choice (n : Nat) : Φ__law_right n "even_choice" = some (F_even_choice n) := (rfl)
@[simp] theorem Φ__law_right_least_wear (n : Nat) : Φ__law_right n "least_wear" = some (F_least_wear n) := (rfl)
@[simp] theorem Φ__law_right__law_take (n : Nat) : Φ__law_right n "_law_take" = some (F__law_take n) := (rfl)
@[simp] theorem Φ__law_right__law_some (n : Nat) : Φ__law_right n "_law_some" = some (F__law_some n) := (rfl)
@[simp] theorem Φ__law_right_needs (n : Nat) : Φ__law_right n "needs" = some (F_needs n) := (rfl)
@[simp] theorem Φ__law_right_shows_least (n : Nat) : Φ__law_right n "shows_least" = some (F_shows_least n) := (rfl)
@[simp] theorem Φ__law_right__law_room (n : Nat) : Φ__law_right n "_law_room" = some (F__law_room n) := (rfl)
@[simp] theorem Φ__law_right__law_drawn (n : Nat) : Φ__law_right n "_law_drawn" = some (F__law_drawn n) := (rfl)
theorem glo_mem {x : Str} {d : D} (h : glo x d = true) : (x, d) ∈ conL := by
  unfold glo at h
  obtain ⟨e, e1, e2⟩ := any_some h
  have m := PySem.mem_of_lookup e1
  cases d with
  | int i =>
    cases e with
    | int j =>
      have q : i = j := of_decide_eq_true e2
      subst q
      exact m
    | _ => cases e2
  | str i =>
    cases e with
    | str j =>
      have q : i = j := of_decide_eq_true e2
      subst q
      exact m
    | _ => cases e2
  | _ => cases e <;> cases e2
section
variable {P : Program} {w : World} {K : Frag} {h base : Heap} {mg : Str → Option Value}
theorem blt_all (X : K.In h) (G : h.Ns mainGlobals mg) (c : He.SaysD K62H.fa K62H.fn K) : ∀ x ∈ bltNames, mg x = none := by
  intro x hx
  simp only [bltNames, List.mem_cons, List.not_mem_nil, or_false] at hx
  rcases hx with rfl | rfl | rfl | rfl | rfl | rfl | rfl | rfl | rfl | rfl | rfl | rfl | rfl | rfl | rfl | rfl | rfl | rfl | rfl | rfl
  · exact He.free_ok X G (c.fact 39 (f := .free "len") rfl)
  · exact He.free_ok X G (c.fact 31 (f := .free "abs") rfl)
  · exact He.free_ok X G (c.fact 37 (f := .free "int") rfl)
  · exact He.free_ok X G (c.fact 49 (f := .free "tuple") rfl)
  · exact He.free_ok X G (c.fact 40 (f := .free "list") rfl)
  · exact He.free_ok X G (c.fact 32 (f := .free "all") rfl)
  · exact He.free_ok X G (c.fact 33 (f := .free "any") rfl)
  · exact He.free_ok X G (c.fact 48 (f := .free "sum") rfl)
  · exact He.free_ok X G (c.fact 41 (f := .free "max") rfl)
  · exact He.free_ok X G (c.fact 42 (f := .free "min") rfl)
  · exact He.free_ok X G (c.fact 46 (f := .free "sorted") rfl)
  · exact He.free_ok X G (c.fact 45 (f := .free "set") rfl)
  · exact He.free_ok X G (c.fact 43 (f := .free "range") rfl)
  · exact He.free_ok X G (c.fact 36 (f := .free "enumerate") rfl)
  · exact He.free_ok X G (c.fact 50 (f := .free "zip") rfl)
  · exact He.free_ok X G (c.fact 38 (f := .free "isinstance") rfl)
  · exact He.free_ok X G (c.fact 34 (f := .free "bool") rfl)
  · exact He.free_ok X G (c.fact 47 (f := .free "str") rfl)
  · exact He.free_ok X G (c.fact 35 (f := .free "dict") rfl)
  · exact He.free_ok X G (c.fact 44 (f := .free "repr") rfl)
theorem glo_all (X : K.In h) (G : h.Ns mainGlobals mg) (c : He.SaysD K62H.fa K62H.fn K) : ∀ x d, glo x d = true → ∃ v u, mg x = some u ∧ RelV v u ∧ ∀ pa B H, Rep pa B H v d := by
  intro x d hd
  have hx := glo_mem hd
  simp only [conL, List.mem_cons, List.not_mem_nil, or_false, Prod.mk.injEq] at hx
  rcases hx with ⟨rfl, rfl⟩ | ⟨rfl, rfl⟩ | ⟨rfl, rfl⟩ | ⟨rfl, rfl⟩ | ⟨rfl, rfl⟩
  · obtain ⟨t, e⟩ := He.int_ok X G (c.fact 51 (f := .int "MOST_TAPES" 12) rfl)
    exact ⟨.int 12, _, e, ⟨t, rfl⟩, fun _ _ _ => .int _⟩
  · obtain ⟨t, e⟩ := He.int_ok X G (c.fact 52 (f := .int "MOST_ASKS" 20) rfl)
    exact ⟨.int 20, _, e, ⟨t, rfl⟩, fun _ _ _ => .int _⟩
  · obtain ⟨t, e⟩ := He.int_ok X G (c.fact 53 (f := .int "MOST_WEAR" 1000000) rfl)
    exact ⟨.int 1000000, _, e, ⟨t, rfl⟩, fun _ _ _ => .int _⟩
  · obtain ⟨t, e⟩ := He.int_ok X G (c.fact 54 (f := .int "PAIR" 2) rfl)
    exact ⟨.int 2, _, e, ⟨t, rfl⟩, fun _ _ _ => .int _⟩
  · obtain ⟨t, e⟩ := He.int_ok X G (c.fact 55 (f := .int "TRIPLE" 3) rfl)
    exact ⟨.int 3, _, e, ⟨t, rfl⟩, fun _ _ _ => .int _⟩
theorem callees (X : K.In h) (G : h.Ns mainGlobals mg) (c : He.SaysD K62H.fa K62H.fn K) (n : Nat) : Callee P w K mg base 6 "least_wear" (F_least_wear n) ∧ Callee P w K mg base 7 "_law_right" (F__law_right n) := by
  have hb := blt_all X G c
  have hg := glo_all X G c
  have cl_is_tuple : Callee P w K mg base 1 "is_tuple" (F_is_tuple n) := by
    obtain ⟨fd, F⟩ := c.def_ 0 (d := K62H.d_is_tuple) rfl
    exact def_ok F sc_is_tuple (by decide) (mok_of hb hg (by
      intro p hp
      cases hp)) ck_is_tuple (He.glo_ok X G (c.fact 0 (f := .glo "is_tuple") rfl)) (FunD.bindsN F fun _ _ _ _ _ _ us hl => match us, hl with | [_, _, _], _ => rfl)
  have cl_is_whole : Callee P w K mg base 1 "is_whole" (F_is_whole n) := by
    obtain ⟨fd, F⟩ := c.def_ 1 (d := K62H.d_is_whole) rfl
    exact def_ok F sc_is_whole (by decide) (mok_of hb hg (by
      intro p hp
      cases hp)) ck_is_whole (He.glo_ok X G (c.fact 1 (f := .glo "is_whole") rfl)) (FunD.bindsN F fun _ _ _ _ _ _ us hl => match us, hl with | [_], _ => rfl)
  have cl_is_integer : Callee P w K mg base 2 "is_integer" (F_is_integer n) := by
    obtain ⟨fd, F⟩ := c.def_ 2 (d := K62H.d_is_integer) rfl
    exact def_ok F sc_is_integer (by decide) (mok_of hb hg (by
      intro p hp
      simp only [List.mem_cons, List.not_mem_nil, or_false] at hp
      rcases hp with rfl
      · exact cl_is_whole.mono (by decide))) ck_is_integer (He.glo_ok X G (c.fact 2 (f := .glo "is_integer") rfl)) (FunD.bindsN F fun _ _ _ _ _ _ us hl => match us, hl with | [_, _, _], _ => rfl)
  have cl_is_rising : Callee P w K mg base 1 "is_rising" (F_is_rising n) := by
    obtain ⟨fd, F⟩ := c.def_ 3 (d := K62H.d_is_rising) rfl
    exact def_ok F sc_is_rising (by decide) (mok_of hb hg (by
      intro p hp
      cases hp)) ck_is_rising (He.glo_ok X G (c.fact 3 (f := .glo "is_rising") rfl)) (FunD.bindsN F fun _ _ _ _ _ _ us hl => match us, hl with | [_], _ => rfl)
  have cl_is_copy : Callee P w K mg base 3 "is_copy" (F_is_copy n) := by
    obtain ⟨fd, F⟩ := c.def_ 4 (d := K62H.d_is_copy) rfl
    exact def_ok F sc_is_copy (by decide) (mok_of hb hg (by
      intro p hp
      simp only [List.mem_cons, List.not_mem_nil, or_false] at hp
      rcases hp with rfl | rfl | rfl
      · exact cl_is_rising.mono (by decide)
      · exact cl_is_integer.mono (by decide)
      · exact cl_is_tuple.mono (by decide))) ck_is_copy (He.glo_ok X G (c.fact 4 (f := .glo "is_copy") rfl)) (FunD.bindsN F fun _ _ _ _ _ _ us hl => match us, hl with | [_, _], _ => rfl)
  have cl_check_wear : Callee P w K mg base 4 "check_wear" (F_check_wear n) := by
    obtain ⟨fd, F⟩ := c.def_ 5 (d := K62H.d_check_wear) rfl
    exact def_ok F sc_check_wear (by decide) (mok_of hb hg (by
      intro p hp
      simp only [List.mem_cons, List.not_mem_nil, or_false] at hp
      rcases hp with rfl | rfl | rfl
      · exact cl_is_copy.mono (by decide)
      · exact cl_is_tuple.mono (by decide)
      · exact cl_is_integer.mono (by decide))) ck_check_wear (He.glo_ok X G (c.fact 5 (f := .glo "check_wear") rfl)) (FunD.bindsN F fun _ _ _ _ _ _ us hl => match us, hl with | [_, _], _ => rfl)
  have cl_is_choice : Callee P w K mg base 3 "is_choice" (F_is_choice n) := by
    obtain ⟨fd, F⟩ := c.def_ 6 (d := K62H.d_is_choice) rfl
    exact def_ok F sc_is_choice (by decide) (mok_of hb hg (by
      intro p hp
      simp only [List.mem_cons, List.not_mem_nil, or_false] at hp
      rcases hp with rfl | rfl
      · exact cl_is_integer.mono (by decide)
      · exact cl_is_tuple.mono (by decide))) ck_is_choice (He.glo_ok X G (c.fact 6 (f := .glo "is_choice") rfl)) (FunD.bindsN F fun _ _ _ _ _ _ us hl => match us, hl with | [_, _], _ => rfl)
  have cl_loads : Callee P w K mg base 1 "loads" (F_loads n) := by
    obtain ⟨fd, F⟩ := c.def_ 7 (d := K62H.d_loads) rfl
    exact def_ok F sc_loads (by decide) (mok_of hb hg (by
      intro p hp
      cases hp)) ck_loads (He.glo_ok X G (c.fact 7 (f := .glo "loads") rfl)) (FunD.bindsN F fun _ _ _ _ _ _ us hl => match us, hl with | [_, _], _ => rfl)
  have cl_reached : Callee P w K mg base 1 "reached" (F_reached n) := by
    obtain ⟨fd, F⟩ := c.def_ 8 (d := K62H.d_reached) rfl
    exact def_ok F sc_reached (by decide) (mok_of hb hg (by
      intro p hp
      cases hp)) ck_reached (He.glo_ok X G (c.fact 8 (f := .glo "reached") rfl)) (FunD.bindsN F fun _ _ _ _ _ _ us hl => match us, hl with | [_, _, _], _ => rfl)
  have cl_moved : Callee P w K mg base 1 "moved" (F_moved n) := by
    obtain ⟨fd, F⟩ := c.def_ 9 (d := K62H.d_moved) rfl
    exact def_ok F sc_moved (by decide) (mok_of hb hg (by
      intro p hp
      cases hp)) ck_moved (He.glo_ok X G (c.fact 9 (f := .glo "moved") rfl)) (FunD.bindsN F fun _ _ _ _ _ _ us hl => match us, hl with | [_, _, _], _ => rfl)
  have cl_better : Callee P w K mg base 2 "better" (F_better n) := by
    obtain ⟨fd, F⟩ := c.def_ 10 (d := K62H.d_better) rfl
    exact def_ok F sc_better (by decide) (mok_of hb hg (by
      intro p hp
      simp only [List.mem_cons, List.not_mem_nil, or_false] at hp
      rcases hp with rfl | rfl | rfl
      · exact cl_moved.mono (by decide)
      · exact cl_reached.mono (by decide)
      · exact cl_loads.mono (by decide))) ck_better (He.glo_ok X G (c.fact 10 (f := .glo "better") rfl)) (FunD.bindsN F fun _ _ _ _ _ _ us hl => match us, hl with | [_, _, _], _ => rfl)
  have cl_even_of : Callee P w K mg base 3 "even_of" (F_even_of n) := by
    obtain ⟨fd, F⟩ := c.def_ 11 (d := K62H.d_even_of) rfl
    exact def_ok F sc_even_of (by decide) (mok_of hb hg (by
      intro p hp
      simp only [List.mem_cons, List.not_mem_nil, or_false] at hp
      rcases hp with rfl | rfl
      · exact cl_better.mono (by decide)
      · exact cl_loads.mono (by decide))) ck_even_of (He.glo_ok X G (c.fact 11 (f := .glo "even_of") rfl)) (FunD.bindsN F fun _ _ _ _ _ _ us hl => match us, hl with | [_, _], _ => rfl)
  have cl_even_choice : Callee P w K mg base 5 "even_choice" (F_even_choice n) := by
    obtain ⟨fd, F⟩ := c.def_ 12 (d := K62H.d_even_choice) rfl
    exact def_ok F sc_even_choice (by decide) (mok_of hb hg (by
      intro p hp
      simp only [List.mem_cons, List.not_mem_nil, or_false] at hp
      rcases hp with rfl | rfl
      · exact cl_even_of.mono (by decide)
      · exact cl_check_wear.mono (by decide))) ck_even_choice (He.glo_ok X G (c.fact 12 (f := .glo "even_choice") rfl)) (FunD.bindsN F fun _ _ _ _ _ _ us hl => match us, hl with | [_, _], _ => rfl)
  have cl_is_even : Callee P w K mg base 5 "is_even" (F_is_even n) := by
    obtain ⟨fd, F⟩ := c.def_ 13 (d := K62H.d_is_even) rfl
    exact def_ok F sc_is_even (by decide) (mok_of hb hg (by
      intro p hp
      simp only [List.mem_cons, List.not_mem_nil, or_false] at hp
      rcases hp with rfl | rfl | rfl
      · exact cl_better.mono (by decide)
      · exact cl_is_choice.mono (by decide)
      · exact cl_check_wear.mono (by decide))) ck_is_even (He.glo_ok X G (c.fact 13 (f := .glo "is_even") rfl)) (FunD.bindsN F fun _ _ _ _ _ _ us hl => match us, hl with | [_, _, _], _ => rfl)
  have cl_chain : Callee P w K mg base 5 "chain" (F_chain n) := by
    obtain ⟨fd, F⟩ := c.def_ 14 (d := K62H.d_chain) rfl
    exact def_ok F sc_chain (by decide) (mok_of hb hg (by
      intro p hp
      simp only [List.mem_cons, List.not_mem_nil, or_false] at hp
      rcases hp with rfl | rfl | rfl
      · exact cl_better.mono (by decide)
      · exact cl_is_choice.mono (by decide)
      · exact cl_check_wear.mono (by decide))) ck_chain (He.glo_ok X G (c.fact 14 (f := .glo "chain") rfl)) (FunD.bindsN F fun _ _ _ _ _ _ us hl => match us, hl with | [_, _, _], _ => rfl)
  have cl_lot_for : Callee P w K mg base 2 "lot_for" (F_lot_for n) := by
    obtain ⟨fd, F⟩ := c.def_ 15 (d := K62H.d_lot_for) rfl
    exact def_ok F sc_lot_for (by decide) (mok_of hb hg (by
      intro p hp
      simp only [List.mem_cons, List.not_mem_nil, or_false] at hp
      rcases hp with rfl | rfl
      · exact cl_reached.mono (by decide)
      · exact cl_loads.mono (by decide))) ck_lot_for (He.glo_ok X G (c.fact 15 (f := .glo "lot_for") rfl)) (FunD.bindsN F fun _ _ _ _ _ _ us hl => match us, hl with | [_, _, _], _ => rfl)
  have cl_least_wear : Callee P w K mg base 6 "least_wear" (F_least_wear n) := by
    obtain ⟨fd, F⟩ := c.def_ 16 (d := K62H.d_least_wear) rfl
    exact def_ok F sc_least_wear (by decide) (mok_of hb hg (by
      intro p hp
      simp only [List.mem_cons, List.not_mem_nil, or_false] at hp
      rcases hp with rfl | rfl | rfl
      · exact cl_lot_for.mono (by decide)
      · exact cl_loads.mono (by decide)
      · exact cl_even_choice.mono (by decide))) ck_least_wear (He.glo_ok X G (c.fact 16 (f := .glo "least_wear") rfl)) (FunD.bindsN F fun _ _ _ _ _ _ us hl => match us, hl with | [_, _], _ => rfl)
  have cl_asks_for : Callee P w K mg base 1 "asks_for" (F_asks_for n) := by
    obtain ⟨fd, F⟩ := c.def_ 17 (d := K62H.d_asks_for) rfl
    exact def_ok F sc_asks_for (by decide) (mok_of hb hg (by
      intro p hp
      cases hp)) ck_asks_for (He.glo_ok X G (c.fact 17 (f := .glo "asks_for") rfl)) (FunD.bindsN F fun _ _ _ _ _ _ us hl => match us, hl with | [_, _, _], _ => rfl)
  have cl_check_lot : Callee P w K mg base 3 "check_lot" (F_check_lot n) := by
    obtain ⟨fd, F⟩ := c.def_ 18 (d := K62H.d_check_lot) rfl
    exact def_ok F sc_check_lot (by decide) (mok_of hb hg (by
      intro p hp
      simp only [List.mem_cons, List.not_mem_nil, or_false] at hp
      rcases hp with rfl | rfl | rfl
      · exact cl_is_rising.mono (by decide)
      · exact cl_is_integer.mono (by decide)
      · exact cl_is_tuple.mono (by decide))) ck_check_lot (He.glo_ok X G (c.fact 18 (f := .glo "check_lot") rfl)) (FunD.bindsN F fun _ _ _ _ _ _ us hl => match us, hl with | [_, _], _ => rfl)
  have cl_needs : Callee P w K mg base 5 "needs" (F_needs n) := by
    obtain ⟨fd, F⟩ := c.def_ 19 (d := K62H.d_needs) rfl
    exact def_ok F sc_needs (by decide) (mok_of hb hg (by
      intro p hp
      simp only [List.mem_cons, List.not_mem_nil, or_false] at hp
      rcases hp with rfl | rfl | rfl
      · exact cl_asks_for.mono (by decide)
      · exact cl_check_lot.mono (by decide)
      · exact cl_check_wear.mono (by decide))) ck_needs (He.glo_ok X G (c.fact 19 (f := .glo "needs") rfl)) (FunD.bindsN F fun _ _ _ _ _ _ us hl => match us, hl with | [_, _, _], _ => rfl)
  have cl_shows_least : Callee P w K mg base 5 "shows_least" (F_shows_least n) := by
    obtain ⟨fd, F⟩ := c.def_ 20 (d := K62H.d_shows_least) rfl
    exact def_ok F sc_shows_least (by decide) (mok_of hb hg (by
      intro p hp
      simp only [List.mem_cons, List.not_mem_nil, or_false] at hp
      rcases hp with rfl | rfl | rfl | rfl | rfl | rfl | rfl
      · exact cl_asks_for.mono (by decide)
      · exact cl_is_rising.mono (by decide)
      · exact cl_is_integer.mono (by decide)
      · exact cl_is_tuple.mono (by decide)
      · exact cl_loads.mono (by decide)
      · exact cl_is_choice.mono (by decide)
      · exact cl_check_wear.mono (by decide))) ck_shows_least (He.glo_ok X G (c.fact 20 (f := .glo "shows_least") rfl)) (FunD.bindsN F fun _ _ _ _ _ _ us hl => match us, hl with | [_, _, _], _ => rfl)
  have cl__law_take : Callee P w K mg base 1 "_law_take" (F__law_take n) := by
    obtain ⟨fd, F⟩ := c.def_ 22 (d := K62H.d__law_take) rfl
    exact def_ok F sc__law_take (by decide) (mok_of hb hg (by
      intro p hp
      cases hp)) ck__law_take (He.glo_ok X G (c.fact 22 (f := .glo "_law_take") rfl)) (FunD.bindsN F fun _ _ _ _ _ _ us hl => match us, hl with | [_, _], _ => rfl)
  have cl__law_of : Callee P w K mg base 2 "_law_of" (F__law_of n) := by
    obtain ⟨fd, F⟩ := c.def_ 23 (d := K62H.d__law_of) rfl
    exact def_ok F sc__law_of (by decide) (mok_of hb hg (by
      intro p hp
      simp only [List.mem_cons, List.not_mem_nil, or_false] at hp
      rcases hp with rfl
      · exact cl__law_take.mono (by decide))) ck__law_of (He.glo_ok X G (c.fact 23 (f := .glo "_law_of") rfl)) (FunD.bindsN F fun _ _ _ _ _ _ us hl => match us, hl with | [_, _], _ => rfl)
  have cl__law_some : Callee P w K mg base 2 "_law_some" (F__law_some n) := by
    obtain ⟨fd, F⟩ := c.def_ 25 (d := K62H.d__law_some) rfl
    exact def_ok F sc__law_some (by decide) (mok_of hb hg (by
      intro p hp
      simp only [List.mem_cons, List.not_mem_nil, or_false] at hp
      rcases hp with rfl
      · exact cl__law_take.mono (by decide))) ck__law_some (He.glo_ok X G (c.fact 25 (f := .glo "_law_some") rfl)) (FunD.bindsN F fun _ _ _ _ _ _ us hl => match us, hl with | [_, _, _], _ => rfl)
  have cl__law_loads : Callee P w K mg base 1 "_law_loads" (F__law_loads n) := by
    obtain ⟨fd, F⟩ := c.def_ 26 (d := K62H.d__law_loads) rfl
    exact def_ok F sc__law_loads (by decide) (mok_of hb hg (by
      intro p hp
      cases hp)) ck__law_loads (He.glo_ok X G (c.fact 26 (f := .glo "_law_loads") rfl)) (FunD.bindsN F fun _ _ _ _ _ _ us hl => match us, hl with | [_, _], _ => rfl)
  have cl__law_drawn : Callee P w K mg base 3 "_law_drawn" (F__law_drawn n) := by
    obtain ⟨fd, F⟩ := c.def_ 27 (d := K62H.d__law_drawn) rfl
    exact def_ok F sc__law_drawn (by decide) (mok_of hb hg (by
      intro p hp
      simp only [List.mem_cons, List.not_mem_nil, or_false] at hp
      rcases hp with rfl | rfl | rfl
      · exact cl__law_some.mono (by decide)
      · exact cl__law_take.mono (by decide)
      · exact cl__law_of.mono (by decide))) ck__law_drawn (He.glo_ok X G (c.fact 27 (f := .glo "_law_drawn") rfl)) (FunD.bindsN F fun _ _ _ _ _ _ us hl => match us, hl with | [_], _ => rfl)
  have cl__law_room : Callee P w K mg base 1 "_law_room" (F__law_room n) := by
    obtain ⟨fd, F⟩ := c.def_ 28 (d := K62H.d__law_room) rfl
    exact def_ok F sc__law_room (by decide) (mok_of hb hg (by
      intro p hp
      cases hp)) ck__law_room (He.glo_ok X G (c.fact 28 (f := .glo "_law_room") rfl)) (FunD.bindsN F fun _ _ _ _ _ _ us hl => match us, hl with | [_, _, _], _ => rfl)
  have cl__law_right : Callee P w K mg base 7 "_law_right" (F__law_right n) := by
    obtain ⟨fd, F⟩ := c.def_ 29 (d := K62H.d__law_right) rfl
    exact def_ok F sc__law_right (by decide) (mok_of hb hg (by
      intro p hp
      simp only [List.mem_cons, List.not_mem_nil, or_false] at hp
      rcases hp with rfl | rfl | rfl | rfl | rfl | rfl | rfl | rfl | rfl | rfl | rfl | rfl
      · exact cl__law_loads.mono (by decide)
      · exact cl_chain.mono (by decide)
      · exact cl__law_of.mono (by decide)
      · exact cl_is_even.mono (by decide)
      · exact cl_even_choice.mono (by decide)
      · exact cl_least_wear.mono (by decide)
      · exact cl__law_take.mono (by decide)
      · exact cl__law_some.mono (by decide)
      · exact cl_needs.mono (by decide)
      · exact cl_shows_least.mono (by decide)
      · exact cl__law_room.mono (by decide)
      · exact cl__law_drawn.mono (by decide))) ck__law_right (He.glo_ok X G (c.fact 29 (f := .glo "_law_right") rfl)) (FunD.bindsN F fun _ _ _ _ _ _ us hl => match us, hl with | [_], _ => rfl)
  exact ⟨cl_least_wear, cl__law_right⟩
end
end K62

set_option Elab.async false
set_option linter.all false
set_option maxRecDepth 100000
set_option maxHeartbeats 4000000
namespace K62
open PySem PySem.Spec PyProof.Rows L2 Ev
/-! by hand: _law_pot, _law_places, law -/
def N_pot : List Str := ["script", "place", "cell", "own", "small"]
def N_places : List Str := ["script", "most"]
def N_law : List Str := ["script", "place", "pot", "lap"]
theorem sc_pot : FnScope N_pot ["script", "place"] (defScope K62H.s__law_pot) := ⟨rfl, rfl, rfl, by decide +kernel, rfl, by decide +kernel, by decide +kernel⟩
theorem sc_places : FnScope N_places ["script", "most"] (defScope K62H.s__law_places) := ⟨rfl, rfl, rfl, by decide +kernel, rfl, by decide +kernel, by decide +kernel⟩
theorem sc_law : FnScope N_law ["script"] (defScope K62H.s_law) := ⟨rfl, rfl, rfl, by decide +kernel, rfl, by decide +kernel, by decide +kernel⟩
def MM : Int := 2305843009213693921
section
variable {P : Program} {w : World} {K : Frag} {mg : Str → Option Value} {base : Heap} {f : Addr} {fd : FuncData}
theorem ok_pot (F : FunD K "_law_pot" "_law_pot" (defArgs K62H.s__law_pot) (defBody K62H.s__law_pot) (defScope K62H.s__law_pot) [] [] f fd) (hb : ∀ x ∈ bltNames, mg x = none) : FnOk P w K mg base L2.CX0 1 f fd ["script", "place"] (spPot K MM) := by
  refine F.ok sc_pot (fun vs H Q E h => ?_) (fun cdv A outer s H vs Q E hr h => ⟨t_pot K 10345 493 98211 14871 900 MM, PSs.nox ?_, pot_walk rfl (by decide) (by decide) (by decide) (by decide) vs H Q E h⟩)
  · obtain ⟨a, ns, p, rfl, _⟩ := h
    rfl
  · have hlen := hb "len" (by decide)
    have habs := hb "abs" (by decide)
    have hint := hb "int" (by decide)
    have hsum := hb "sum" (by decide)
    exact pss_cons (ps_set (i := 2) sc_pot.nd rfl (Or.inl rfl) (pe_ifExp (pt_cmpR op_lt (pv 1) (pe_callB call_len rfl hlen boot_len (pa_cons (pv 0) pa_nil)) (nomark _)) (pe_ix ix_list (pv 0) (pv 1) (notSlice_ok rfl))
        (pe_op op_add (pe_op op_add (pe_op op_mod (pe_callB (cr_sum rfl) rfl hsum (by decide +kernel) (pa_cons (pe_slice sl_list (pv 0) po_none (po_some pe_int)) pa_nil)) pe_int) (pe_op op_mul pe_int (pv 1))) pe_int)))
      (pss_cons (ps_set (i := 3) sc_pot.nd rfl (Or.inl rfl) (pe_op op_mul (pe_op op_mod (pe_callTy call_int1 rfl hint (by decide +kernel) (pa_cons (pe_callB call_abs rfl habs (by decide +kernel) (pa_cons (pv 2) pa_nil)) pa_nil)) (pe_op op_powW (pe_op op_powW pe_int pe_int) pe_int))
          (pe_callTy call_int1 rfl hint (by decide +kernel) (pa_cons (pe_cmpR op_ge (pe_callB call_abs rfl habs (by decide +kernel) (pa_cons (pv 2) pa_nil)) (pe_op op_powW pe_int pe_int) (nomark _)) pa_nil))))
        (pss_cons (ps_set (i := 4) sc_pot.nd rfl (Or.inl rfl) (pe_op op_mod (pe_callTy call_int1 rfl hint (by decide +kernel) (pa_cons (pv 2) pa_nil)) pe_int))
          (pss_one (ps_ret (pe_lst (pa_cons (pv 3) (pa_cons (pe_op op_mod (pe_callTy call_int1 rfl hint (by decide +kernel) (pa_cons (pe_op op_add (pe_op op_add (pe_op op_mul (pv 4) pe_int) (pe_op op_mul (pe_op op_mul pe_int (pv 1)) (pv 1))) pe_int) pa_nil)) pe_int) (pa_cons pe_int pa_nil))))))))
theorem ok_places (F : FunD K "_law_places" "_law_places" (defArgs K62H.s__law_places) (defBody K62H.s__law_places) (defScope K62H.s__law_places) [] [] f fd) (hb : ∀ x ∈ bltNames, mg x = none) : FnOk P w K mg base L2.CX0 1 f fd ["script", "most"] (spPlaces K) := by
  refine F.ok sc_places (fun vs H Q E h => ?_) (fun cdv A outer s H vs Q E hr h => ⟨tRet (te_places K), PSs.nox ?_, places_walk rfl vs H Q E h⟩)
  · obtain ⟨a, ns, p, rfl, _⟩ := h
    rfl
  · have hlen := hb "len" (by decide)
    have hmin := hb "min" (by decide)
    have hmax := hb "max" (by decide)
    have hrange := hb "range" (by decide)
    have hlist := hb "list" (by decide)
    exact pss_one (ps_ret (pe_listRg rfl rfl hlist (prg_1 rfl hrange (pe_callB (call_max2 rfl) rfl hmax (by decide +kernel) (pa_cons pe_int (pa_cons (pe_callB (call_min2 rfl) rfl hmin (by decide +kernel) (pa_cons (pv 1) (pa_cons (pe_callB call_len rfl hlen boot_len (pa_cons (pv 0) pa_nil)) pa_nil))) pa_nil))))))
def a_rest : Ss := (.cons (.ife (.not (.bi .all (.cons false (.lc (.cal "_law_right" (.cons false (.slot 2) .nil)) (.nm 3) (.rng1 (.con (.int 2))) .no [3]) .nil))) (.cons (.ret (.con (.bl false))) .nil) .nil) .nil)
/-- the statements behind the pot's making -/
def restB : List Stmt := (match defBody K62H.s_law with
  | .For _ _ (_ :: r) _ _ :: _ => r
  | _ => [])
theorem ck_rest : chkSs (gcN glo ["_law_right", "least_wear"]) a_rest ⟨N_law, defScope K62H.s_law, fun _ => true⟩ restB = true := by decide +kernel
noncomputable def Φ_rest (n : Nat) : Str → Option Fn := phL [("_law_right", F__law_right n), ("least_wear", F_least_wear n)]
noncomputable def f_rest (n : Nat) : St' → Option Fl := exSs (Φ_rest n) n a_rest
def a_tail : Ss := (.cons (.ret (.cmp .eq (.bi .repr (.cons false (.cal "least_wear" (.cons false (.tup (.cons false (.con (.int 5)) .nil)) (.cons false (.bin .mul (.tup (.cons false (.tup (.cons false (.con (.int 0)) .nil)) .nil)) (.con (.int 20))) .nil))) .nil)) (.bi .repr (.cons false (.tup (.cons false (.con (.int 25)) (.cons false (.bin .mul (.tup (.cons false (.con (.int 0)) .nil)) (.con (.int 20))) (.cons false (.bi .tuple (.cons false (.lr1 (.con (.int 20))) .nil)) .nil)))) .nil)))) .nil)
/-- the statements behind the loop -/
def tailB : List Stmt := (defBody K62H.s_law).drop 1
theorem ck_tail : chkSs (gcN glo ["_law_right", "least_wear"]) a_tail ⟨N_law, defScope K62H.s_law, fun _ => true⟩ tailB = true := by decide +kernel
noncomputable def f_tail (n : Nat) : St' → Option Fl := exSs (Φ_rest n) n a_tail
theorem ok_law {n : Nat} {fP fL : Addr} {fdP fdL : FuncData} (F : FunD K "law" "law" (defArgs K62H.s_law) (defBody K62H.s_law) (defScope K62H.s_law) [] [] f fd)
    (FP : FnOk P w K mg base L2.CX0 1 fP fdP ["script", "place"] (spPot K MM)) (FL : FnOk P w K mg base L2.CX0 1 fL fdL ["script", "most"] (spPlaces K)) (kP : PySem.W.keepIn K (.ref fP) = true) (kL : PySem.W.keepIn K (.ref fL) = true)
    (bP : Binds K fdP ["script", "place"] []) (bL : Binds K fdL ["script", "most"] []) (gP : mg "_law_pot" = some (.ref fP)) (gL : mg "_law_places" = some (.ref fL))
    (M : MOk P w K mg base (Φ_rest n) (gcN glo ["_law_right", "least_wear"]) 7) (hf : RestOk MM 4 (f_rest n)) (ht : TailOk 4 (f_tail n)) : FnG P w K mg base L2.CX0 8 f fd ["script"] (spLawE K) := by
  refine fnG_of F sc_law (fun vs H Q E h => ?_) (fun cdv A outer s H vs Q E hr gd h => ⟨t_law H K MM 3 (f_rest n) (tX H (f_tail n)), PSs.nox ?_, law_walk (N := N_law) (by decide) (by decide) hf vs H Q E h (fun a D σ H' z1 z2 z3 z4 => tail_ok (K := K) ht (by decide) z1 z2 z3 z4)⟩)
  · obtain ⟨a, ns, rfl, _⟩ := h
    rfl
  · have hr1 : Room 1 (cxOf L2.CX0 P w K mg base N_law "law" (defScope K62H.s_law) f cdv A outer s H E).nox.A := hr.mono (by decide)
    have part : ∀ {a : Ss} {b : List Stmt}, chkSs (gcN glo ["_law_right", "least_wear"]) a ⟨N_law, defScope K62H.s_law, fun _ => true⟩ b = true → PSs (cxOf L2.CX0 P w K mg base N_law "law" (defScope K62H.s_law) f cdv A outer s H E).nox b (tX H (exSs (Φ_rest n) n a)) := fun {a b} ck => x_okH fun c h0 => by
      refine Ss.ok a c _ ⟨N_law, defScope K62H.s_law, fun _ => true⟩ b ⟨⟨rfl, sc_law.nd, rfl, rfl, rfl, hr.units, gd, M.blt, fun y d h => ?_, fun y h => ?_⟩, PassesOwn.never, ?_, h0⟩ ck
      · obtain ⟨v, u, h1, h2, h3⟩ := M.glo y d h
        exact ⟨v, u, h1, h2, h3 c.pa⟩
      · obtain ⟨G, h1, h2⟩ := M.cal y h
        exact ⟨G, h1, Callee.cal h2 hr gd⟩
      · show (envOfC "law" (defScope K62H.s_law) s.heap.objs.size f cdv).blockKind = .function
        rfl
    exact pss_cons (ps_for PassesOwn.never rfl (pi_list (pe_call FL hr1 rfl gL kL bL .nil pass0 (pa_cons (pv 0) (pa_cons pe_int pa_nil)))) (pg_name sc_law.nd rfl (.inl rfl) (.inl rfl)) (pss_cons (ps_set (i := 2) sc_law.nd rfl (by first | exact Or.inl rfl | exact Or.inr rfl) (pe_call FP hr1 rfl gP kP bP .nil pass0 (pa_cons (pv 0) (pa_cons (pv 1) pa_nil)))) (part ck_rest))) (part ck_tail)
end
end K62

set_option Elab.async false
set_option linter.all false
set_option maxRecDepth 100000
set_option maxHeartbeats 4000000
/-! worn, the checks -/
namespace K62
open PySem PySem.Spec PyProof.Rows L2 Ev K71 Wn
variable {n : Nat} {P : Pt}
theorem cut_take {α : Type} (xs : List α) (k : Nat) : Ev.cutD xs none (some (k : Int)) = xs.take k := by
  unfold Ev.cutD
  rw [HT.sIx_none, HT.sIx_nat, List.drop_zero, Nat.sub_zero]
  rcases Nat.le_total k xs.length with h | h
  · rw [Nat.min_eq_left h]
  · rw [Nat.min_eq_right h, List.take_length, List.take_of_length_le h]
theorem cut_drop {α : Type} (xs : List α) (k : Nat) : Ev.cutD xs (some (k : Int)) none = xs.drop k := by
  unfold Ev.cutD
  rw [HT.sIx_none, HT.sIx_nat]
  rcases Nat.le_total k xs.length with h | h
  · rw [Nat.min_eq_left h, List.take_of_length_le (by rw [List.length_drop]; omega)]
  · rw [Nat.min_eq_right h, List.drop_length, List.drop_of_length_le h]
    simp
theorem e_is_tuple_t (xs : List D) (a b : Int) : F_is_tuple n [.tup xs, .int a, .int b] P = some (.val (.bl (decide (a ≤ xs.length) && decide ((xs.length : Int) ≤ b))), P) := by
  by_cases h : a ≤ xs.length <;> simp [F_is_tuple, fnF, a_is_tuple, ps_is_tuple, N_is_tuple, readS, isiD, BI.fn, h]
theorem e_is_whole (i : Int) : F_is_whole n [.int i] P = some (.val (.bl true), P) := by
  simp [F_is_whole, fnF, a_is_whole, ps_is_whole, N_is_whole, readS, isiD]
theorem e_is_integer (i a b : Int) : F_is_integer n [.int i, .int a, .int b] P = some (.val (.bl (decide (a ≤ i) && decide (i ≤ b))), P) := by
  by_cases h : a ≤ i <;> simp [F_is_integer, fnF, a_is_integer, ps_is_integer, N_is_integer, readS, e_is_whole, h]
theorem takeK : TakeOk (F__law_take n) := fun k P u hP hk h1 h2 => take_ok (by decide) (by decide) (by decide) (by decide) (by decide) (by decide) (by decide) (by decide) (by decide) hP hk h1 h2
abbrev nI (k : Nat) : D := .int (k : Int)
def tpD (c : List Nat) : D := .tup (c.map nI)
def csD (cs : List (List Nat)) : D := .tup (cs.map tpD)
def wsD (ws : List Int) : D := .tup (ws.map .int)
theorem e_is_rising {c : List Nat} (hl : c.length ≤ 1000) (h : ∀ p ∈ c.zip (c.drop 1), p.1 < p.2) : F_is_rising n [tpD c] P = some (.val (.bl true), P) := by
  have e1 : slcD (.tup (c.map nI)) (some 1) none = some (.tup ((c.drop 1).map nI)) := by
    show some (D.tup (cutD (c.map nI) (some ((1 : Nat) : Int)) none)) = _
    rw [cut_drop, List.map_drop]
  refine fn_eq rfl ?_
  simp [a_is_rising, ps_is_rising, N_is_rising, readS]
  rw [ev_lc_s (h := fun (p : Nat × Nat) => D.tup [nI p.1, nI p.2]) (xs := c.zip (c.drop 1)) (fun _ => .bl true) (by simp [readS, tpD, partOf, intOf, e1, -List.drop_one]; rw [← List.map_drop]; exact zipL_map _ _) (by simp; omega) (by simp [notOwn]) (fun p hp P => by
    have := h p hp
    simp [lcGo_eq, wipeE, readS, this])]
  simp [BI.fn]
structure CpOk (T : Nat) (c : List Nat) : Prop where
  ne : 1 ≤ c.length
  le : c.length ≤ T
  lt : ∀ x ∈ c, x < T
  up : ∀ p ∈ c.zip (c.drop 1), p.1 < p.2
structure WOk (ws : List Int) (cs : List (List Nat)) : Prop where
  t1 : 1 ≤ ws.length
  t2 : ws.length ≤ 12
  w : ∀ x ∈ ws, 0 ≤ x ∧ x ≤ 1000000
  m : cs.length ≤ 20
  c : ∀ c ∈ cs, CpOk ws.length c
theorem WOk.ne {ws : List Int} {cs : List (List Nat)} (h : WOk ws cs) : ws ≠ [] := fun e => by
  have := h.t1
  rw [e] at this
  simp at this
theorem CpOk.nn {T : Nat} {c : List Nat} (h : CpOk T c) : c ≠ [] := fun e => by
  have := h.ne
  rw [e] at this
  simp at this
theorem e_is_copy {ws : List Int} {c : List Nat} (h : CpOk ws.length c) (ht : ws.length ≤ 12) : F_is_copy n [wsD ws, tpD c] P = some (.val (.bl true), P) := by
  have h1 := h.ne
  have h2 := h.le
  have a1 : (1 : Int) ≤ c.length := by omega
  have a2 : (c.length : Int) ≤ ws.length := by omega
  have er := e_is_rising (n := n) (P := P) (c := c) (by omega) h.up
  have et := e_is_tuple_t (n := n) (P := P) (c.map nI) 1 ws.length
  simp only [List.length_map, a1, a2, decide_true, Bool.and_self] at et
  refine fn_eq rfl ?_
  simp [a_is_copy, ps_is_copy, N_is_copy, readS, BI.fn, wsD, tpD, et]
  rw [ev_lc_s (h := nI) (xs := c) (fun _ => .bl true) (by simp [readS]) (by omega) (by simp [notOwn]) (fun x hx P => by
    have := h.lt x hx
    have a3 : (x : Int) ≤ ws.length - 1 := by omega
    simp [lcGo_eq, wipeE, readS, BI.fn, e_is_integer, a3])]
  have er' : F_is_rising n [.tup (c.map nI)] P = some (.val (.bl true), P) := er
  simp [readS, er']
theorem e_check_wear {ws : List Int} {cs : List (List Nat)} (h : WOk ws cs) : F_check_wear n [wsD ws, csD cs] P = some (.val .non, P) := by
  have h1 := h.t1
  have h2 := h.t2
  have h3 := h.m
  have et := e_is_tuple_t (n := n) (P := P) (ws.map .int) 1 12
  have a1 : (1 : Int) ≤ ws.length := by omega
  have a2 : (ws.length : Int) ≤ 12 := by omega
  have a3 : (cs.length : Int) ≤ 20 := by omega
  simp only [List.length_map, a1, a2, decide_true, Bool.and_self] at et
  have et2 := e_is_tuple_t (n := n) (P := P) (cs.map tpD) 0 20
  simp only [List.length_map, a3, decide_true, Bool.and_true] at et2
  simp at et2
  refine fn_eq rfl ?_
  simp [a_check_wear, ps_check_wear, N_check_wear, readS, wsD, csD, et, et2]
  rw [ev_lc_s (h := D.int) (xs := ws) (fun _ => .bl true) (by simp [readS]) (by omega) (by simp [notOwn]) (fun x hx P => by
    have := h.w x hx
    simp [lcGo_eq, wipeE, readS, e_is_integer, this.1, this.2])]
  simp [BI.fn, readS, et2]
  rw [ev_lc_s (h := tpD) (xs := cs) (fun _ => .bl true) (by simp [readS]) (by omega) (by simp [notOwn]) (fun c hc P => by
    have ec := e_is_copy (n := n) (P := P) (h.c c hc) h2
    unfold wsD at ec
    simp [lcGo_eq, wipeE, readS, ec])]
  simp
theorem pl_nI {k : Nat} {c : List Nat} : D.plL k (c.map nI) = true := by
  have e : c.map nI = (c.map fun (k : Nat) => (k : Int)).map D.int := by simp
  rw [e]
  exact plL_ints _ _
theorem in_nI (t : Nat) (c : List Nat) : inL (nI t) (c.map nI) = some (decide (t ∈ c)) := by
  unfold inL
  have h1 : (flatD (nI t) && (c.map nI).all flatD) = true := by
    rw [Bool.and_eq_true]
    refine ⟨rfl, List.all_eq_true.mpr fun d hd => ?_⟩
    obtain ⟨k, _, rfl⟩ := List.mem_map.mp hd
    rfl
  rw [if_pos h1]
  congr 1
  rw [Bool.eq_iff_iff, List.any_eq_true, decide_eq_true_iff]
  constructor
  · rintro ⟨d, hd, e⟩
    obtain ⟨k, hk, rfl⟩ := List.mem_map.mp hd
    rw [eqv_int] at e
    have e := of_decide_eq_true e
    have : k = t := by omega
    exact this ▸ hk
  · intro h
    exact ⟨nI t, List.mem_map.mpr ⟨t, h, rfl⟩, by rw [eqv_int]; simp⟩
theorem in_tp (t : Nat) (c : List Nat) : cmpB .in_ (nI t) (tpD c) = some (decide (t ∈ c)) := in_nI t c
theorem in_ls (t : Nat) (c : List Nat) : cmpB .in_ (nI t) (.lst (c.map nI)) = some (decide (t ∈ c)) := in_nI t c
theorem e_is_choice {cs : List (List Nat)} {ch : List Nat} {T : Nat} (hT : T ≤ 12) (h20 : cs.length ≤ 20) (h : Val T cs ch) : F_is_choice n [csD cs, tpD ch] P = some (.val (.bl true), P) := by
  have hl := h.len
  have et := e_is_tuple_t (n := n) (P := P) (ch.map nI) cs.length cs.length
  have a1 : (cs.length : Int) ≤ ch.length := by omega
  have a2 : (ch.length : Int) ≤ cs.length := by omega
  simp only [List.length_map, a1, a2, decide_true, Bool.and_self] at et
  refine fn_eq rfl ?_
  simp [a_is_choice, ps_is_choice, N_is_choice, readS, BI.fn, csD, tpD, et]
  rw [ev_lc_s (h := fun (p : Nat × List Nat) => D.tup [nI p.1, tpD p.2]) (xs := ch.zip cs) (fun _ => .bl true) (by simp [readS]; exact zipL_map _ _) (by simp; omega) (by simp [notOwn]) (fun p hp P => by
    obtain ⟨i, hi⟩ := List.mem_iff_getElem?.mp hp
    rw [List.getElem?_zip_eq_some] at hi
    have hm := h.mem i p.1 p.2 hi.1 hi.2
    have hlt := h.lt p.2 (List.mem_of_getElem? hi.2) p.1 hm
    have a3 : (p.1 : Int) ≤ 12 := by omega
    have hin := in_tp p.1 p.2
    simp [hm] at hin
    simp [lcGo_eq, wipeE, readS, e_is_integer, a3, hin])]
  simp
end K62

set_option Elab.async false
set_option linter.all false
set_option maxRecDepth 100000
set_option maxHeartbeats 4000000
/-! worn: loads, what is found from a tape -/
namespace K62
open PySem PySem.Spec PyProof.Rows L2 Ev K71 Wn
variable {n : Nat} {P : Pt}
theorem ix_at {l : List Int} {t : Nat} (ht : t < l.length) : idxD (.lst (l.map .int)) (.int t) = some (.int (l.getD t 0)) := by
  refine (idx_nat (k := t) ?_).2.1
  rw [List.getElem?_map, List.getElem?_eq_getElem ht, List.getD_eq_getElem?_getD, List.getElem?_eq_getElem ht]
  rfl
theorem ix_atT {l : List Int} {t : Nat} (ht : t < l.length) : idxD (.tup (l.map .int)) (.int t) = some (.int (l.getD t 0)) := by
  refine (idx_nat (k := t) ?_).1
  rw [List.getElem?_map, List.getElem?_eq_getElem ht, List.getD_eq_getElem?_getD, List.getElem?_eq_getElem ht]
  rfl
theorem ixN_at {k t : Nat} (h : t < k) : ixN k (t : Int) = some t := by
  unfold ixN
  rw [if_pos (by omega), if_pos (by omega)]
  simp
theorem ix_cs {cs : List (List Nat)} {a : Nat} {c : List Nat} (h : cs[a]? = some c) : idxD (csD cs) (.int (a : Nat)) = some (tpD c) := by
  refine (idx_nat (k := a) ?_).1
  rw [List.getElem?_map, h]
  rfl

theorem e_loads {ws : List Int} {ch : List Nat} (h : ∀ t ∈ ch, t < ws.length) : F_loads n [wsD ws, tpD ch] P = some (.val (.lst ((ld ws ch).map .int)), P) := by
  refine fn_eq rfl ?_
  simp only [a_loads, ps_loads, N_loads]
  refine wp_to (S1 := ⟨[.val (wsD ws), .val (tpD ch), .own (ws.map .int), .un], P⟩) (by simp [readS, svOf, setS, BI.fn, wsD]) ?_
  refine wp_st0 (fun S => ∃ j3, S = ⟨[.val (wsD ws), .val (tpD ch), .own ((ld ws ch).map .int), j3], P⟩) ?_ ?_
  · refine wp_forr (h := nI) (xs := ch) (S1 := ⟨[.val (wsD ws), .val (tpD ch), .own (ws.map .int), .un], P⟩) (by simp [readS, tpD]) (fun i S => ∃ j3, S = ⟨[.val (wsD ws), .val (tpD ch), .own ((ld ws (ch.take i)).map .int), j3], P⟩) ⟨_, rfl⟩ ?_ ?_
    · rintro i t S hx ⟨j3, rfl⟩
      have ht : ch.take (i + 1) = ch.take i ++ [t] := by
        rw [List.take_add_one, hx]
        rfl
      have hlt := h t (List.mem_of_getElem? hx)
      rw [ht, ld_app]
      have hl := ld_len (ch.take i) ws
      generalize ld ws (ch.take i) = l at *
      have e1 := ix_at (l := l) (t := t) (by omega)
      have e2 := ixN_at (k := l.length) (t := t) (by omega)
      have e3 : ld l [t] = l.set t (l.getD t 0 + 1) := rfl
      rw [e3]
      simp [readS, ownAt, e1, e2, setS, intOf, List.map_set]
    · rintro S ⟨j3, rfl⟩
      rw [List.take_length]
      exact ⟨_, rfl⟩
  · rintro S ⟨j3, rfl⟩
    simp [readS]

theorem e_law_loads {ws : List Int} {ch : List Nat} (h : ∀ t ∈ ch, t < ws.length) : F__law_loads n [wsD ws, tpD ch] P = some (.val (.lst ((ld ws ch).map .int)), P) := by
  refine fn_eq rfl ?_
  simp only [a__law_loads, ps__law_loads, N__law_loads]
  refine wp_to (S1 := ⟨[.val (wsD ws), .val (tpD ch), .own (ws.map .int), .un], P⟩) (by simp [readS, svOf, setS, BI.fn, wsD]) ?_
  refine wp_st0 (fun S => ∃ j3, S = ⟨[.val (wsD ws), .val (tpD ch), .own ((ld ws ch).map .int), j3], P⟩) ?_ ?_
  · refine wp_forr (h := nI) (xs := ch) (S1 := ⟨[.val (wsD ws), .val (tpD ch), .own (ws.map .int), .un], P⟩) (by simp [readS, tpD]) (fun i S => ∃ j3, S = ⟨[.val (wsD ws), .val (tpD ch), .own ((ld ws (ch.take i)).map .int), j3], P⟩) ⟨_, rfl⟩ ?_ ?_
    · rintro i t S hx ⟨j3, rfl⟩
      have ht : ch.take (i + 1) = ch.take i ++ [t] := by
        rw [List.take_add_one, hx]
        rfl
      have hlt := h t (List.mem_of_getElem? hx)
      rw [ht, ld_app]
      have hl := ld_len (ch.take i) ws
      generalize ld ws (ch.take i) = l at *
      have e1 := ix_at (l := l) (t := t) (by omega)
      have e2 := ixN_at (k := l.length) (t := t) (by omega)
      have e3 : ld l [t] = l.set t (l.getD t 0 + 1) := rfl
      rw [e3]
      simp [readS, ownAt, e1, e2, setS, intOf, List.map_set]
    · rintro S ⟨j3, rfl⟩
      rw [List.take_length]
      exact ⟨_, rfl⟩
  · rintro S ⟨j3, rfl⟩
    simp [readS]
/-! ### what is found from a tape -/
def wD : Option (Nat × Nat) → D
  | none => .non
  | some (a, h) => .tup [.int (a : Nat), .int (h : Nat)]
def Ad (A : Fd) : List (Nat × D) := A.map fun p => (p.1, wD p.2)
def kD (A : Fd) : List D := (Ad A).map fun p => nI p.1
def vD (A : Fd) : List D := (Ad A).map (·.2)
theorem nat_inj (x y : Nat) (h : nkD (nI x) = nkD (nI y)) : x = y := by
  have := nk_int _ _ h
  omega
theorem look_N (x : Nat) (A : Fd) : lookD (kD A) (vD A) (nI x) = lkA (Ad A) x := look_A (enc := nI) nat_inj x (Ad A)
theorem ad_keys (A : Fd) : (Ad A).map (·.1) = keys A := by simp [Ad, keys]
theorem lk_none {A : Fd} {x : Nat} : lkA (Ad A) x = none ↔ x ∉ keys A := by rw [lkA_none, ad_keys]
theorem lk_some {A : Fd} {x : Nat} (h : x ∈ keys A) : ∃ (j : Nat) (w : Option (Nat × Nat)), A[j]? = some (x, w) ∧ lkA (Ad A) x = some (wD w) := by
  cases q : lkA (Ad A) x with
  | none => exact absurd h (lk_none.mp q)
  | some d =>
    obtain ⟨p, hp, e⟩ := List.mem_map.mp (lkA_mem q)
    obtain ⟨j, hj⟩ := List.mem_iff_getElem?.mp hp
    cases e
    exact ⟨j, p.2, hj, rfl⟩
theorem lk_at {T tape : Nat} {cs : List (List Nat)} {ch : List Nat} {A : Fd} (F : Fnd T tape cs ch A) {j x : Nat} {w : Option (Nat × Nat)} (h : A[j]? = some (x, w)) : lkA (Ad A) x = some (wD w) := by
  obtain ⟨i, u, hi, e⟩ := lk_some (A := A) (x := x) (List.mem_map.mpr ⟨_, List.mem_of_getElem? h, rfl⟩)
  obtain ⟨_, rfl⟩ := key_one F.nd hi h
  exact e
theorem put_N {x : Nat} {w : Option (Nat × Nat)} {A : Fd} (h : lkA (Ad A) x = none) : putD (kD A) (vD A) (nI x) (wD w) = (kD (A ++ [(x, w)]), vD (A ++ [(x, w)])) := by
  have := put_A (enc := nI) (d := wD w) nat_inj h
  have e : Ad (A ++ [(x, w)]) = Ad A ++ [(x, wD w)] := by simp [Ad]
  unfold kD vD
  rw [e]
  exact this
theorem kD_len (A : Fd) : (kD A).length = A.length := by simp [kD, Ad]
/-- all that a tape's asks lead to is there -/
def Dn (cs : List (List Nat)) (ch : List Nat) (A : Fd) (x : Nat) (k : Nat) : Prop := ∀ (i o : Nat) (c : List Nat), i < k → ch[i]? = some x → cs[i]? = some c → o ∈ c → o ∈ keys A
theorem Dn.mono {cs : List (List Nat)} {ch : List Nat} {A : Fd} {x k : Nat} {p : Nat × Option (Nat × Nat)} (h : Dn cs ch A x k) : Dn cs ch (A ++ [p]) x k := fun i o c hi h1 h2 h3 => by
  unfold keys
  rw [List.map_append]
  exact List.mem_append_left _ (h i o c hi h1 h2 h3)
/-- amid a search, with tape hr looked at up to ask k -/
structure Md (T tape : Nat) (cs : List (List Nat)) (ch : List Nat) (μ hr k : Nat) (A : Fd) (w : List Nat) : Prop where
  F : Fnd T tape cs ch A
  wk : ∀ x ∈ w, x ∈ keys A
  hk : hr ∈ keys A
  dn : ∀ x ∈ keys A, x ∉ w → x ≠ hr → Dn cs ch A x ch.length
  dh : Dn cs ch A hr k
  mu : (T - A.length) + w.length = μ
theorem Md.add {T tape : Nat} {cs : List (List Nat)} {ch : List Nat} {μ hr k : Nat} {A : Fd} {w : List Nat} (M : Md T tape cs ch μ hr k A w) {o a : Nat} {c : List Nat} (ho : o < T) (hn : o ∉ keys A) (e1 : ch[a]? = some hr) (e2 : cs[a]? = some c) (hc : o ∈ c) :
    Md T tape cs ch μ hr k (A ++ [(o, some (a, hr))]) (w ++ [o]) := by
  have F2 := M.F.add ho hn e1 e2 hc M.hk
  have kk : ∀ x, x ∈ keys (A ++ [(o, some (a, hr))]) ↔ x ∈ keys A ∨ x = o := fun x => by
    unfold keys
    rw [List.map_append]
    simp
  refine ⟨F2, fun x hx => ?_, (kk _).mpr (.inl M.hk), fun x hx hw hh => ?_, M.dh.mono, ?_⟩
  · rcases List.mem_append.mp hx with hx | hx
    · exact (kk _).mpr (.inl (M.wk x hx))
    · simp at hx
      exact (kk _).mpr (.inr hx)
  · rcases (kk _).mp hx with hx | rfl
    · exact (M.dn x hx (fun z => hw (List.mem_append_left _ z)) hh).mono
    · exact absurd (List.mem_append_right _ (by simp)) hw
  · have := keys_len F2.nd F2.lt
    have := M.mu
    simp [keys] at *
    omega

theorem e_reached (hn : 100000 ≤ n) {ws : List Int} {cs : List (List Nat)} {ch : List Nat} {tape : Nat} (hW : WOk ws cs) (hV : Val ws.length cs ch) (ht : tape < ws.length) : ∃ A, F_reached n [csD cs, tpD ch, .int (tape : Nat)] P = some (.val (.dct false (kD A) (vD A)), P) ∧ Fnd ws.length tape cs ch A ∧ Shut cs ch A := by
  have t2 := hW.t2
  have m20 := hW.m
  have hl := hV.len
  have main : Wp (F_reached n [csD cs, tpD ch, .int (tape : Nat)] P) (fun x => ∃ A, x = (.val (.dct false (kD A) (vD A)), P) ∧ Fnd ws.length tape cs ch A ∧ Shut cs ch A) := by
    refine fn_wp rfl ?_
    simp only [a_reached, ps_reached, N_reached]
    refine wp_to (S1 := ⟨[.val (csD cs), .val (tpD ch), .val (.int (tape : Nat)), .od false (kD [(tape, none)]) (vD [(tape, none)]), .own ([tape].map nI), .un, .un, .un, .un], P⟩) (by simp [readS, svOf, setS, kD, vD, Ad, wD]) ?_
    refine wp_st0 (fun S => ∃ A j4 here ask own other, Fnd ws.length tape cs ch A ∧ Shut cs ch A ∧ S = ⟨[.val (csD cs), .val (tpD ch), .val (.int (tape : Nat)), .od false (kD A) (vD A), j4, here, ask, own, other], P⟩) (wp_while (fun μ S => μ ≤ ws.length ∧ ∃ A w here ask own other, (Fnd ws.length tape cs ch A ∧ (∀ x ∈ w, x ∈ keys A) ∧ (∀ x ∈ keys A, x ∉ w → Dn cs ch A x ch.length) ∧ (ws.length - A.length) + w.length = μ) ∧ S = ⟨[.val (csD cs), .val (tpD ch), .val (.int (tape : Nat)), .od false (kD A) (vD A), .own (w.map nI), here, ask, own, other], P⟩) ws.length (by omega) ⟨Nat.le_refl _, [(tape, none)], [tape], _, _, _, _, ⟨Fnd.root ht, fun x hx => by simp at hx; simp [keys, hx], fun x hx hw => by simp [keys] at hx; simp [hx] at hw, by simp; omega⟩, rfl⟩ ?_) ?_
    · rintro μ S ⟨hμT, A, w, here, ask, own, other, ⟨hF, hw, hd, hμ⟩, rfl⟩
      have hne : cmpB .ne (.lst (w.map nI)) (.lst []) = some (!(w.map nI).isEmpty) := by
        rw [cmp_neD, eqD_pl (pl_lst pl_nI) (pl_lst (by simp [D.plL]))]
        cases w with
        | nil => simp [D.py, D.pyL, PyData.eqv, PyData.eqvAll]
        | cons x xs => simp [D.py, D.pyL, PyData.eqv, PyData.eqvAll]
      cases w with
      | nil =>
        refine ⟨.bl false, ⟨[.val (csD cs), .val (tpD ch), .val (.int (tape : Nat)), .od false (kD A) (vD A), .own ([].map nI), here, ask, own, other], P⟩, by simp [readS] at hne ⊢; rw [hne], .inl ⟨rfl, A, _, _, _, _, _, hF, fun x i o c hx h1 h2 h3 => hd x hx (by simp) i o c (List.getElem?_eq_some_iff.mp h1).1 h1 h2 h3, rfl⟩⟩
      | cons hr r =>
        refine ⟨.bl true, ⟨[.val (csD cs), .val (tpD ch), .val (.int (tape : Nat)), .od false (kD A) (vD A), .own ((hr :: r).map nI), here, ask, own, other], P⟩, by simp [readS] at hne ⊢; rw [hne], .inr ⟨rfl, ?_⟩⟩
        have hAl : A.length ≤ ws.length := by
          have := keys_len hF.nd hF.lt
          simpa [keys] using this
        rw [List.length_cons] at hμ
        have hp := pop0 (x := nI hr) (xs := r.map nI) (by simp; omega)
        refine wp_to (S1 := ⟨[.val (csD cs), .val (tpD ch), .val (.int (tape : Nat)), .od false (kD A) (vD A), .own (r.map nI), .val (nI hr), ask, own, other], P⟩) (by simp [ownAt, intOf, hp, setS]) ?_
        have M0 : Md ws.length tape cs ch (μ - 1) hr 0 A r := ⟨hF, fun x hx => hw x (List.mem_cons_of_mem _ hx), hw hr List.mem_cons_self, fun x hx hxw hxh => hd x hx (by simp [hxw, hxh]), fun i o c hi => by omega, by omega⟩
        refine wp_st0 (fun S => ∃ A w ask own other, Md ws.length tape cs ch (μ - 1) hr ch.length A w ∧ S = ⟨[.val (csD cs), .val (tpD ch), .val (.int (tape : Nat)), .od false (kD A) (vD A), .own (w.map nI), .val (nI hr), ask, own, other], P⟩) ?_ ?_
        · refine wp_forr (h := fun (q : Nat × Nat) => D.tup [.int (q.2 : Nat), nI q.1]) (xs := ch.zipIdx) (S1 := ⟨[.val (csD cs), .val (tpD ch), .val (.int (tape : Nat)), .od false (kD A) (vD A), .own (r.map nI), .val (nI hr), ask, own, other], P⟩) (by simp [readS, tpD, enumL_map0]) (fun i S => ∃ A w ask own other, Md ws.length tape cs ch (μ - 1) hr i A w ∧ S = ⟨[.val (csD cs), .val (tpD ch), .val (.int (tape : Nat)), .od false (kD A) (vD A), .own (w.map nI), .val (nI hr), ask, own, other], P⟩) ⟨A, r, _, _, _, M0, rfl⟩ ?_ (fun S hS => by rw [List.length_zipIdx] at hS; exact hS)
          rintro i ⟨own, ask⟩ S hx ⟨A1, w1, j6, j7, other, hM1, rfl⟩
          have hask : ch[ask]? = some own := mem_zipIdx0 (List.mem_of_getElem? hx)
          have hia : ask = i := by
            rw [List.getElem?_zipIdx] at hx
            obtain ⟨y, hy, e⟩ := Option.map_eq_some_iff.mp hx
            cases e
            omega
          subst hia
          have hal : ask < cs.length := by
            have := (List.getElem?_eq_some_iff.mp hask).1
            omega
          simp only [bindT_tup, bindTs_cons, bindTs_nil, bindT_nm, List.length_cons, List.length_nil, List.length_set]
          rw [if_pos (by simp), Option.bind_some, if_pos (by simp), Option.bind_some, wp_some]
          show Wp (exSs (Φ_reached n) n _ ⟨[.val (csD cs), .val (tpD ch), .val (.int (tape : Nat)), .od false (kD A1) (vD A1), .own (w1.map nI), .val (nI hr), .val (nI ask), .val (nI own), other], P⟩) _
          by_cases ho : own = hr
          · subst ho
            have hcs : cs[ask]? = some (cs[ask]) := List.getElem?_eq_getElem hal
            generalize cs[ask] = c at hcs
            have hcOk := hW.c c (List.mem_of_getElem? hcs)
            have ixc := ix_cs hcs
            refine wp_ift (d := .bl true) (S1 := ⟨[.val (csD cs), .val (tpD ch), .val (.int (tape : Nat)), .od false (kD A1) (vD A1), .own (w1.map nI), .val (nI own), .val (nI ask), .val (nI own), other], P⟩) (by simp [readS]) rfl ?_
            refine wp_st0 (fun S => ∃ A w other, Md ws.length tape cs ch (μ - 1) own (ask + 1) A w ∧ S = ⟨[.val (csD cs), .val (tpD ch), .val (.int (tape : Nat)), .od false (kD A) (vD A), .own (w.map nI), .val (nI own), .val (nI ask), .val (nI own), other], P⟩) ?_ ?_
            · refine wp_forr (h := nI) (xs := c) (S1 := ⟨[.val (csD cs), .val (tpD ch), .val (.int (tape : Nat)), .od false (kD A1) (vD A1), .own (w1.map nI), .val (nI own), .val (nI ask), .val (nI own), other], P⟩) (by simp [readS, ixc]; rfl) (fun j S => ∃ A w other, (Md ws.length tape cs ch (μ - 1) own ask A w ∧ ∀ o ∈ c.take j, o ∈ keys A) ∧ S = ⟨[.val (csD cs), .val (tpD ch), .val (.int (tape : Nat)), .od false (kD A) (vD A), .own (w.map nI), .val (nI own), .val (nI ask), .val (nI own), other], P⟩) ⟨A1, w1, _, ⟨hM1, by simp⟩, rfl⟩ ?_ ?_
              · rintro i2 o S hx2 ⟨A2, w2, j8, ⟨hM2, hpre⟩, rfl⟩
                have hoc := List.mem_of_getElem? hx2
                have htk : c.take (i2 + 1) = c.take i2 ++ [o] := by
                  rw [List.take_add_one, hx2]
                  rfl
                rw [htk]
                simp only [bindT_nm, List.length_cons, List.length_nil]
                rw [if_pos (by simp), wp_some]
                show Wp (exSs (Φ_reached n) n _ ⟨[.val (csD cs), .val (tpD ch), .val (.int (tape : Nat)), .od false (kD A2) (vD A2), .own (w2.map nI), .val (nI own), .val (nI ask), .val (nI own), .val (nI o)], P⟩) _
                have hA2 : A2.length ≤ ws.length := by
                  have := keys_len hM2.F.nd hM2.F.lt
                  simpa [keys] using this
                have hw2 : w2.length ≤ 24 := by
                  have := hM2.mu
                  omega
                have lA : A2.length < LIM := Nat.lt_of_lt_of_le (show A2.length < 1000000 by omega) (by decide)
                have lW : w2.length < LIM := Nat.lt_of_lt_of_le (show w2.length < 1000000 by omega) (by decide)
                by_cases hq : o ∈ keys A2
                · obtain ⟨j, wv, _, hlk⟩ := lk_some hq
                  refine wp_iff (d := .bl false) (S1 := ⟨[.val (csD cs), .val (tpD ch), .val (.int (tape : Nat)), .od false (kD A2) (vD A2), .own (w2.map nI), .val (nI own), .val (nI ask), .val (nI own), .val (nI o)], P⟩) (by simp [readS, look_N, hlk]) rfl ?_
                  exact wp_nil (wp_nil ⟨A2, w2, _, ⟨hM2, fun x hx => by
                    rcases List.mem_append.mp hx with hx | hx
                    · exact hpre x hx
                    · simp at hx
                      exact hx ▸ hq⟩, rfl⟩)
                · have hlk := lk_none.mpr hq
                  have hp2 : putD (kD A2) (vD A2) (nI o) (.tup [nI ask, nI own]) = _ := put_N (w := some (ask, own)) hlk
                  refine wp_ift (d := .bl true) (S1 := ⟨[.val (csD cs), .val (tpD ch), .val (.int (tape : Nat)), .od false (kD A2) (vD A2), .own (w2.map nI), .val (nI own), .val (nI ask), .val (nI own), .val (nI o)], P⟩) (by simp [readS, look_N, hlk]) rfl ?_
                  refine wp_to (S1 := ⟨[.val (csD cs), .val (tpD ch), .val (.int (tape : Nat)), .od false (kD (A2 ++ [(o, some (ask, own))])) (vD (A2 ++ [(o, some (ask, own))])), .own (w2.map nI), .val (nI own), .val (nI ask), .val (nI own), .val (nI o)], P⟩) (by simp [readS, odAt, kD_len, lA, setS, hp2]) ?_
                  refine wp_to (S1 := ⟨[.val (csD cs), .val (tpD ch), .val (.int (tape : Nat)), .od false (kD (A2 ++ [(o, some (ask, own))])) (vD (A2 ++ [(o, some (ask, own))])), .own ((w2 ++ [o]).map nI), .val (nI own), .val (nI ask), .val (nI own), .val (nI o)], P⟩) (by simp [readS, ownAt, lW, setS]) ?_
                  refine wp_nil (wp_nil ⟨_, _, _, ⟨hM2.add (hcOk.lt o hoc) hq hask hcs hoc, fun x hx => ?_⟩, rfl⟩)
                  unfold keys
                  rw [List.map_append]
                  rcases List.mem_append.mp hx with hx | hx
                  · exact List.mem_append_left _ (hpre x hx)
                  · simp at hx
                    exact List.mem_append_right _ (by simp [hx])
              · rintro S ⟨A2, w2, j8, ⟨hM2, hpre⟩, rfl⟩
                rw [List.take_length] at hpre
                refine ⟨A2, w2, _, ⟨hM2.F, hM2.wk, hM2.hk, hM2.dn, fun i' o' c' hi' h1 h2 h3 => ?_, hM2.mu⟩, rfl⟩
                by_cases e : i' = ask
                · subst e
                  rw [hcs] at h2
                  cases h2
                  exact hpre o' h3
                · exact hM2.dh i' o' c' (by omega) h1 h2 h3
            · rintro S ⟨A2, w2, j8, hM2, rfl⟩
              exact wp_nil (wp_nil ⟨A2, w2, _, _, _, hM2, rfl⟩)
          · have ho2 : ¬ ((own : Int) = hr) := by omega
            refine wp_iff (d := .bl false) (S1 := ⟨[.val (csD cs), .val (tpD ch), .val (.int (tape : Nat)), .od false (kD A1) (vD A1), .own (w1.map nI), .val (nI hr), .val (nI ask), .val (nI own), other], P⟩) (by simp [readS]; exact ho2) rfl ?_
            refine wp_nil (wp_nil ⟨A1, w1, _, _, _, ⟨hM1.F, hM1.wk, hM1.hk, hM1.dn, fun i' o' c' hi' h1 h2 h3 => ?_, hM1.mu⟩, rfl⟩)
            by_cases e : i' = ask
            · subst e
              rw [hask] at h1
              exact absurd (Option.some.inj h1) ho
            · exact hM1.dh i' o' c' (by omega) h1 h2 h3
        · rintro S ⟨A1, w1, j6, j7, j8, hM1, rfl⟩
          refine wp_nil ⟨μ - 1, by omega, by omega, A1, w1, _, _, _, _, ⟨hM1.F, hM1.wk, fun x hx hxw => ?_, hM1.mu⟩, rfl⟩
          by_cases e : x = hr
          · subst e
            exact hM1.dh
          · exact hM1.dn x hx hxw e
    · rintro S ⟨A, j4, j5, j6, j7, j8, hF, hS, rfl⟩
      simp [readS]
      exact ⟨A, ⟨rfl, rfl⟩, hF, hS⟩
  obtain ⟨x, e, A, rfl, hF, hS⟩ := main
  exact ⟨A, e, hF, hS⟩
end K62

set_option Elab.async false
set_option linter.all false
set_option maxRecDepth 100000
set_option maxHeartbeats 4000000
/-! worn: chains, even choices -/
namespace K62
open PySem PySem.Spec PyProof.Rows L2 Ev K71 Wn
variable {n : Nat} {P : Pt}
def prP (p : Int × Int) : D := .tup [.int p.1, .int p.2]
theorem less_pr (y a : Int × Int) : lessD (prP y) (prP a) = llt y a := by
  show PySem.W.dataLt (prP y).py (prP a).py = _
  simp only [prP, D.py, D.pyL]
  rw [PySem.W.dataLt_ii]
  unfold llt
  by_cases h : y.1 = a.1
  · simp [h]
  · simp [h]
theorem alike_prs (ps : List (Int × Int)) : allAlike (ps.map prP) = true := by
  unfold allAlike
  have h1 : D.plL PL (ps.map prP) = true := by
    show D.plL 20 (ps.map prP) = true
    induction ps with
    | nil => simp [D.plL]
    | cons p ps ih => simp [D.plL, ih, prP, D.pl]
  rw [h1, Bool.true_and, List.all_eq_true]
  intro d hd
  obtain ⟨i, _, rfl⟩ := List.mem_map.mp hd
  rw [Bool.and_eq_true]
  refine ⟨rfl, List.all_eq_true.mpr fun e he => ?_⟩
  obtain ⟨j, _, rfl⟩ := List.mem_map.mp he
  simp [prP, D.py, D.pyL, PySem.W.alike, PySem.W.alikeAll]
theorem fold_prs : ∀ (xs : List (Int × Int)) (a : Int × Int), (xs.map prP).foldl (fun a y => if lessD y a = true then y else a) (prP a) = prP (lmin a xs)
  | [], a => rfl
  | y :: xs, a => by
    rw [List.map_cons, List.foldl_cons, less_pr]
    have e : (if llt y a = true then prP y else prP a) = prP (if llt y a = true then y else a) := by split <;> rfl
    rw [e, fold_prs xs]
    rfl
theorem best_prs (a : Int × Int) (xs : List (Int × Int)) : bestF lessD [.lst ((a :: xs).map prP)] = some (prP (lmin a xs)) := by
  show (if allAlike ((a :: xs).map prP) = true then some ((xs.map prP).foldl (fun a y => if lessD y a = true then y else a) (prP a)) else none) = _
  rw [if_pos (alike_prs _), fold_prs]
/-- the least worn of a copy's tapes -/
def pick (l : List Int) (c : List Nat) : Nat := match c with
  | [] => 0
  | t :: r => (lmin (l.getD t 0, (t : Int)) (r.map fun t => (l.getD t 0, (t : Int)))).2.toNat
theorem pick_min {l : List Int} {c : List Nat} (h : c ≠ []) : bestF lessD [.lst (c.map fun t => prP (l.getD t 0, (t : Int)))] = some (prP (l.getD (pick l c) 0, ((pick l c : Nat) : Int))) ∧ pick l c ∈ c ∧ ∀ t ∈ c, lle (l.getD (pick l c) 0, ((pick l c : Nat) : Int)) (l.getD t 0, (t : Int)) := by
  cases c with
  | nil => exact absurd rfl h
  | cons t r =>
    have e := best_prs (l.getD t 0, (t : Int)) (r.map fun t => (l.getD t 0, (t : Int)))
    have hi := lmin_in (r.map fun t => (l.getD t 0, (t : Int))) (l.getD t 0, (t : Int))
    have hl := lmin_le (r.map fun t => (l.getD t 0, (t : Int))) (l.getD t 0, (t : Int))
    have hp : pick l (t :: r) = (lmin (l.getD t 0, (t : Int)) (r.map fun t => (l.getD t 0, (t : Int)))).2.toNat := rfl
    rw [hp]
    generalize lmin (l.getD t 0, (t : Int)) (r.map fun t => (l.getD t 0, (t : Int))) = x at *
    have hx : ∃ o ∈ t :: r, x = (l.getD o 0, (o : Int)) := by
      rcases hi with hi | hi
      · exact ⟨t, List.mem_cons_self, hi⟩
      · obtain ⟨o, ho, e⟩ := List.mem_map.mp hi
        exact ⟨o, List.mem_cons_of_mem _ ho, e.symm⟩
    obtain ⟨o, ho, rfl⟩ := hx
    simp only [Int.toNat_natCast]
    refine ⟨?_, ho, fun y hy => ?_⟩
    · rw [← e, List.map_cons, List.map_cons, List.map_map]
      rfl
    · rcases List.mem_cons.mp hy with rfl | hy
      · exact hl.1
      · exact hl.2 _ (List.mem_map.mpr ⟨y, hy, rfl⟩)
def chs (ws : List Int) (cs : List (List Nat)) : List Nat := cs.foldl (fun ch c => ch ++ [pick (ld ws ch) c]) []
theorem chs_take {ws : List Int} {cs : List (List Nat)} {i : Nat} {c : List Nat} (h : cs[i]? = some c) : chs ws (cs.take (i + 1)) = chs ws (cs.take i) ++ [pick (ld ws (chs ws (cs.take i))) c] := by
  unfold chs
  rw [List.take_add_one, h]
  simp [List.foldl_append]
theorem chs_val {ws : List Int} {T : Nat} : ∀ (cs : List (List Nat)) (ch : List Nat) (ds : List (List Nat)), (∀ c ∈ cs, CpOk T c) → Val T ds ch → Val T (ds ++ cs) (cs.foldl (fun ch c => ch ++ [pick (ld ws ch) c]) ch)
  | [], ch, ds, _, h => by simpa using h
  | c :: cs, ch, ds, hc, h => by
    rw [List.foldl_cons]
    have hcOk := hc c List.mem_cons_self
    have hp := (pick_min (l := ld ws ch) hcOk.nn).2.1
    have hv : Val T (ds ++ [c]) (ch ++ [pick (ld ws ch) c]) := by
      refine ⟨by simp [h.len], fun i t d e1 e2 => ?_, fun d hd => ?_⟩
      · by_cases hi : i < ch.length
        · rw [List.getElem?_append_left hi] at e1
          rw [List.getElem?_append_left (by rw [← h.len]; exact hi)] at e2
          exact h.mem i t d e1 e2
        · rw [List.getElem?_append_right (by omega)] at e1
          rw [List.getElem?_append_right (by rw [← h.len]; omega)] at e2
          have h0 : i - ch.length = 0 := by
            have := (List.getElem?_eq_some_iff.mp e1).1
            simp at this
            omega
          rw [← h.len, h0] at e2
          rw [h0] at e1
          simp at e1 e2
          rw [← e1, ← e2]
          exact hp
      · rcases List.mem_append.mp hd with hd | hd
        · exact h.lt d hd
        · simp at hd
          rw [hd]
          exact hcOk.lt
    have := chs_val (ws := ws) cs _ _ (fun x hx => hc x (List.mem_cons_of_mem _ hx)) hv
    rw [List.append_assoc] at this
    exact this
theorem chs_ok {ws : List Int} {cs : List (List Nat)} (hW : WOk ws cs) (k : Nat) : Val ws.length (cs.take k) (chs ws (cs.take k)) := by
  have := chs_val (ws := ws) (T := ws.length) (cs.take k) [] [] (fun c hc => hW.c c (List.mem_of_mem_take hc)) ⟨rfl, fun i t c e => by simp at e, fun c hc => by simp at hc⟩
  unfold chs
  simpa using this
/-! ### along a chain -/

theorem e_moved (hn : 100000 ≤ n) {T tape goal j : Nat} {cs : List (List Nat)} {ch : List Nat} {A : Fd} {w : Option (Nat × Nat)} (hT : T ≤ 12) (hV : Val T cs ch) (F : Fnd T tape cs ch A) (hj : A[j]? = some (goal, w)) :
    ∃ new, F_moved n [tpD ch, .dct false (kD A) (vD A), nI goal] P = some (.val (tpD new), P) ∧ Val T cs new ∧ ∀ t, cnt new t = cnt ch t + (if t = goal then 1 else 0) - (if t = tape then 1 else 0) := by
  have hA : A.length ≤ T := by
    have := keys_len F.nd F.lt
    simpa [keys] using this
  have hjA := (List.getElem?_eq_some_iff.mp hj).1
  have main : Wp (F_moved n [tpD ch, .dct false (kD A) (vD A), nI goal] P) (fun x => ∃ new, x = (.val (tpD new), P) ∧ Val T cs new ∧ ∀ t, cnt new t = cnt ch t + (if t = goal then 1 else 0) - (if t = tape then 1 else 0)) := by
    refine fn_wp rfl ?_
    simp only [a_moved, ps_moved, N_moved]
    refine wp_to (S1 := ⟨[.val (tpD ch), .val (.dct false (kD A) (vD A)), .val (nI goal), .own (ch.map nI), .un, .un], P⟩) (by simp [readS, svOf, setS, BI.fn, tpD]) ?_
    refine wp_st0 (fun S => ∃ new x ask ahead, (Val T cs new ∧ ∀ t, cnt new t = cnt ch t + (if t = goal then 1 else 0) - (if t = tape then 1 else 0)) ∧ S = ⟨[.val (tpD ch), .val (.dct false (kD A) (vD A)), .val (nI x), .own (new.map nI), ask, ahead], P⟩) (wp_while (fun μ S => ∃ x w new ask ahead, A[μ]? = some (x, w) ∧ Mv cs ch A goal μ new ∧ S = ⟨[.val (tpD ch), .val (.dct false (kD A) (vD A)), .val (nI x), .own (new.map nI), ask, ahead], P⟩) j (by omega) ⟨goal, w, ch, _, _, hj, Mv.start hV hj, rfl⟩ ?_) ?_
    · rintro μ S ⟨x, w, new, ask, ahead, hx, M, rfl⟩
      have hlk := lk_at F hx
      cases w with
      | none => exact ⟨.bl false, ⟨[.val (tpD ch), .val (.dct false (kD A) (vD A)), .val (nI x), .own (new.map nI), ask, ahead], P⟩, by simp [readS, look_N, hlk, wD, Ev.isNon], .inl ⟨rfl, new, x, _, _, M.done F hV hx, rfl⟩⟩
      | some w =>
        obtain ⟨a, h⟩ := w
        obtain ⟨ha, i, u, hi, hA2, M2⟩ := M.step F hx
        have e2 := ixN_at ha
        refine ⟨.bl true, ⟨[.val (tpD ch), .val (.dct false (kD A) (vD A)), .val (nI x), .own (new.map nI), ask, ahead], P⟩, by simp [readS, look_N, hlk, wD, Ev.isNon], .inr ⟨rfl, ?_⟩⟩
        refine wp_to (S1 := ⟨[.val (tpD ch), .val (.dct false (kD A) (vD A)), .val (nI x), .own (new.map nI), .val (nI a), .val (nI h)], P⟩) (by simp [readS, look_N, hlk, wD]) ?_
        refine wp_to (S1 := ⟨[.val (tpD ch), .val (.dct false (kD A) (vD A)), .val (nI x), .own ((new.set a x).map nI), .val (nI a), .val (nI h)], P⟩) (by simp [readS, ownAt, intOf, e2, setS, List.map_set]) ?_
        refine wp_to (S1 := ⟨[.val (tpD ch), .val (.dct false (kD A) (vD A)), .val (nI h), .own ((new.set a x).map nI), .val (nI a), .val (nI h)], P⟩) (by simp [readS, svOf, setS]) ?_
        exact wp_nil ⟨i, hi, h, u, _, _, _, hA2, M2, rfl⟩
    · rintro S ⟨new, x, ask, ahead, h, rfl⟩
      simp [readS, BI.fn]
      exact ⟨new, rfl, h⟩
  obtain ⟨x, e, new, rfl, h⟩ := main
  exact ⟨new, e, h⟩
theorem sort_keys {A : Fd} (h : A.length < 60) : sortF [.dct false (kD A) (vD A)] = some (.lst ((((keys A).map fun (k : Nat) => (k : Int)).mergeSort fun a b => decide (a ≤ b)).map .int)) := by
  show (intsOf (kD A)).bind (fun ns => if ns.length < 60 then some (D.lst ((ns.mergeSort fun a b => decide (a ≤ b)).map .int)) else none) = _
  have e : kD A = ((keys A).map fun (k : Nat) => (k : Int)).map D.int := by simp [kD, Ad, keys]
  rw [e, intsOf_map, Option.bind_some, if_pos (by simpa [keys] using h)]
/-- what better tells -/
def BetD (ws : List Int) (cs : List (List Nat)) (ch : List Nat) (d : D) : Prop := (d = .non ∧ Even ws cs ch) ∨ ∃ new, d = tpD new ∧ Better ws cs ch new

theorem e_better (hn : 100000 ≤ n) {ws : List Int} {cs : List (List Nat)} {ch : List Nat} (hW : WOk ws cs) (hV : Val ws.length cs ch) : ∃ d, F_better n [wsD ws, csD cs, tpD ch] P = some (.val d, P) ∧ BetD ws cs ch d := by
  have t2 := hW.t2
  have el := e_loads (n := n) (P := P) hV.tl
  have hlen := ld_len ch ws
  have hr : rngD 0 (ws.length : Int) = _ := rngD_ok (by omega) (by omega) (by omega) (by omega)
  have lws : lenF [wsD ws] = some (.int ws.length) := by
    show some (D.int ((ws.map D.int).length : Nat)) = _
    simp
  have main : Wp (F_better n [wsD ws, csD cs, tpD ch] P) (fun x => ∃ d, x = (.val d, P) ∧ BetD ws cs ch d) := by
    refine fn_wp rfl ?_
    simp only [a_better, ps_better, N_better]
    refine wp_to (S1 := ⟨[.val (wsD ws), .val (csD cs), .val (tpD ch), .val (.lst ((ld ws ch).map .int)), .un, .un, .un, .un], P⟩) (by simp [readS, el, svOf, setS]) ?_
    refine wp_step (fun S => Even ws cs ch ∧ ∃ tape found some other, S = ⟨[.val (wsD ws), .val (csD cs), .val (tpD ch), .val (.lst ((ld ws ch).map .int)), tape, found, some, other], P⟩) (fun d P' => P' = P ∧ BetD ws cs ch d) ?_ ?_ ?_
    · refine wp_forr (h := fun (i : Nat) => D.int (0 + i)) (xs := List.range ((ws.length : Int) - 0).toNat) (S1 := ⟨[.val (wsD ws), .val (csD cs), .val (tpD ch), .val (.lst ((ld ws ch).map .int)), .un, .un, .un, .un], P⟩) (evi_rng1_ok (j := (ws.length : Int)) (by simp [readS, BI.fn, lws]) hr) (fun i S => (∀ t o, t < i → Rch cs ch t o → L ws ch t ≤ L ws ch o + 1) ∧ ∃ tape found some, S = ⟨[.val (wsD ws), .val (csD cs), .val (tpD ch), .val (.lst ((ld ws ch).map .int)), tape, found, some, .un], P⟩) ⟨fun t o h => by omega, _, _, _, rfl⟩ ?_ ?_
      · rintro i t S hx ⟨hpre, j4, j5, j6, rfl⟩
        have hx' := (List.getElem?_eq_some_iff.mp hx).1
        rw [List.length_range] at hx'
        rw [List.getElem?_range hx'] at hx
        cases Option.some.inj hx
        have hi : i < ws.length := by omega
        obtain ⟨A, eA, hF, hS⟩ := e_reached (n := n) (P := P) hn hW hV hi
        have hAl : A.length ≤ ws.length := by
          have := keys_len hF.nd hF.lt
          simpa [keys] using this
        have hs := sort_keys (A := A) (by omega)
        have hmem : ∀ o, o ∈ (((keys A).map fun (k : Nat) => (k : Int)).mergeSort fun a b => decide (a ≤ b)) ↔ ∃ k : Nat, o = k ∧ k ∈ keys A := fun o => by
          rw [(List.mergeSort_perm _ _).mem_iff, List.mem_map]
          constructor
          · rintro ⟨k, hk, rfl⟩
            exact ⟨k, rfl, hk⟩
          · rintro ⟨k, rfl, hk⟩
            exact ⟨k, hk, rfl⟩
        have hLl : (((keys A).map fun (k : Nat) => (k : Int)).mergeSort fun a b => decide (a ≤ b)).length ≤ 1000000 := by
          rw [List.length_mergeSort, List.length_map]
          simp [keys]
          omega
        generalize (((keys A).map fun (k : Nat) => (k : Int)).mergeSort fun a b => decide (a ≤ b)) = Ls at *
        simp only [bindT_nm, List.length_cons, List.length_nil]
        rw [if_pos (by simp), wp_some]
        have e0 : (0 : Int) + (i : Int) = i := by omega
        simp only [e0]
        show Wp (exSs (Φ_better n) n _ ⟨[.val (wsD ws), .val (csD cs), .val (tpD ch), .val (.lst ((ld ws ch).map .int)), .val (nI i), j5, j6, .un], P⟩) _
        refine wp_to (S1 := ⟨[.val (wsD ws), .val (csD cs), .val (tpD ch), .val (.lst ((ld ws ch).map .int)), .val (nI i), .val (.dct false (kD A) (vD A)), j6, .un], P⟩) (by simp [readS, eA, svOf, setS]) ?_
        generalize hfl : Ls.filter (fun o => decide (L ws ch o.toNat + 1 < L ws ch i)) = fl
        refine wp_to (S1 := ⟨[.val (wsD ws), .val (csD cs), .val (tpD ch), .val (.lst ((ld ws ch).map .int)), .val (nI i), .val (.dct false (kD A) (vD A)), .val (.lst (fl.map .int)), .un], P⟩) ?_ ?_
        · simp only [exS_set]
          rw [ev_lc_sf (h := D.int) (xs := Ls) (fun o => decide (L ws ch o.toNat + 1 < L ws ch i)) D.int (by simp [readS, BI.fn, hs]) hLl (by simp [notOwn]) (fun o ho P => by
            obtain ⟨k, rfl, hk⟩ := (hmem o).mp ho
            have hkl := hF.lt k hk
            have x1 := ix_at (l := ld ws ch) (t := k) (by omega)
            have x2 := ix_at (l := ld ws ch) (t := i) (by omega)
            simp [lcGo_eq, wipeE, readS, x1, x2]), hfl]
          simp [svOf, setS]
        cases fl with
        | nil =>
          have nn : cmpB .ne (.lst (([] : List Int).map .int)) (.lst []) = some false := ne_same (by decide +kernel)
          refine wp_iff (d := .bl false) (S1 := ⟨[.val (wsD ws), .val (csD cs), .val (tpD ch), .val (.lst ((ld ws ch).map .int)), .val (nI i), .val (.dct false (kD A) (vD A)), .val (.lst (([] : List Int).map .int)), .un], P⟩) (by simp [readS] at nn ⊢; simp [nn]) rfl ?_
          refine wp_nil (wp_nil ⟨fun t o hto hr => ?_, _, _, _, rfl⟩)
          by_cases e : t = i
          · subst e
            have hk := (hF.all hS o).mpr hr
            have := List.filter_eq_nil_iff.mp hfl o ((hmem o).mpr ⟨o, rfl, hk⟩)
            simp only [decide_eq_true_eq, Int.toNat_natCast] at this
            omega
          · exact hpre t o (by omega) hr
        | cons x fl =>
          have hx := List.mem_filter.mp (hfl ▸ List.mem_cons_self : x ∈ Ls.filter _)
          obtain ⟨k, rfl, hk⟩ := (hmem x).mp hx.1
          have hlt : L ws ch k + 1 < L ws ch i := by simpa using hx.2
          have nn : cmpB .ne (.lst (((k : Int) :: fl).map .int)) (.lst []) = some true := by
            rw [cmp_neD, eqD_pl (pl_lst (plL_ints _ _)) (pl_lst (by simp [D.plL]))]
            simp [D.py, D.pyL, PyData.eqv, PyData.eqvAll]
          obtain ⟨j, wv, hj, _⟩ := lk_some hk
          obtain ⟨new, em, hVn, hcn⟩ := e_moved (n := n) (P := P) hn t2 hV hF hj
          have i0 : idxD (.lst (((k : Int) :: fl).map .int)) (.int 0) = some (nI k) := (idx_nat (k := 0) rfl).2.1
          refine wp_ift (d := .bl true) (S1 := ⟨[.val (wsD ws), .val (csD cs), .val (tpD ch), .val (.lst ((ld ws ch).map .int)), .val (nI i), .val (.dct false (kD A) (vD A)), .val (.lst (((k : Int) :: fl).map .int)), .un], P⟩) (by simp [readS] at nn ⊢; simp [nn]) rfl ?_
          refine wp_rt (d := tpD new) (P := P) (by simp at i0; simp [readS, i0, em]) ?_
          exact ⟨rfl, .inr ⟨new, rfl, hVn, i, k, hi, hF.lt k hk, (hF.all hS k).mp hk, by omega, hcn⟩⟩
      · rintro S ⟨hall, j4, j5, j6, rfl⟩
        exact ⟨fun t o ht hr => hall t o (by simp; omega) hr, _, _, _, _, rfl⟩
    · rintro S ⟨hE, j4, j5, j6, j7, rfl⟩
      simp
      exact .inl ⟨rfl, hE⟩
    · rintro d P' ⟨rfl, h⟩
      exact ⟨d, rfl, h⟩
  obtain ⟨x, e, d, rfl, h⟩ := main
  exact ⟨d, e, h⟩
/-- how far a choice may yet go on -/
def Gm (ws : List Int) (cs : List (List Nat)) (ch : List Nat) : Int := G (ld ws ch) - G ws + 2 * (ws.length - 1) * cs.length
theorem gm_ok {ws : List Int} {cs : List (List Nat)} {ch : List Nat} (hW : WOk ws cs) (hV : Val ws.length cs ch) : 0 ≤ Gm ws cs ch ∧ Gm ws cs ch ≤ 880 := by
  have h := G_ld hV.tl
  have h1 := hW.t1
  have h2 := hW.t2
  have h3 := hW.m
  have hl := hV.len
  unfold Gm
  rw [hl] at h
  have h4 : 2 * ((ws.length : Int) - 1) * cs.length ≤ 22 * 20 := Int.mul_le_mul (by omega) (by omega) (by omega) (by omega)
  omega

theorem e_even_of (hn : 100000 ≤ n) {ws : List Int} {cs : List (List Nat)} (hW : WOk ws cs) : ∃ ch, F_even_of n [wsD ws, csD cs] P = some (.val (tpD ch), P) ∧ Val ws.length cs ch ∧ Even ws cs ch := by
  have m20 := hW.m
  have hv := chs_ok hW cs.length
  rw [List.take_length] at hv
  have main : Wp (F_even_of n [wsD ws, csD cs] P) (fun x => ∃ ch, x = (.val (tpD ch), P) ∧ Val ws.length cs ch ∧ Even ws cs ch) := by
    refine fn_wp rfl ?_
    simp only [a_even_of, ps_even_of, N_even_of]
    refine wp_to (S1 := ⟨[.val (wsD ws), .val (csD cs), .val (.tup []), .un, .un, .un, .un, .un], P⟩) (by simp [svOf, setS]) ?_
    refine wp_st0 (fun S => ∃ j4 j5 j6, S = ⟨[.val (wsD ws), .val (csD cs), .val (tpD (chs ws cs)), .un, j4, j5, j6, .un], P⟩) ?_ ?_
    · refine wp_forr (h := fun (q : List Nat × Nat) => D.tup [.int (q.2 : Nat), tpD q.1]) (xs := cs.zipIdx) (S1 := ⟨[.val (wsD ws), .val (csD cs), .val (.tup []), .un, .un, .un, .un, .un], P⟩) (by simp [readS, csD, enumL_map0]) (fun i S => ∃ j4 j5 j6, S = ⟨[.val (wsD ws), .val (csD cs), .val (tpD (chs ws (cs.take i))), .un, j4, j5, j6, .un], P⟩) ⟨_, _, _, rfl⟩ ?_ ?_
      · rintro i ⟨c, i'⟩ S hx ⟨j4, j5, j6, rfl⟩
        have hc : cs[i]? = some c := by
          rw [List.getElem?_zipIdx] at hx
          obtain ⟨y, hy, e⟩ := Option.map_eq_some_iff.mp hx
          cases e
          exact hy
        have hcOk := hW.c c (List.mem_of_getElem? hc)
        have hne := hcOk.nn
        rw [chs_take hc]
        have hvi := chs_ok hW i
        have el := e_loads (n := n) (P := P) hvi.tl
        have hlen := ld_len (chs ws (cs.take i)) ws
        have hl20 : (chs ws (cs.take i)).length ≤ 20 := by
          have := hvi.len
          rw [List.length_take] at this
          omega
        generalize chs ws (cs.take i) = ch at *
        generalize ld ws ch = l at *
        obtain ⟨hp1, hp2, hp3⟩ := pick_min (l := l) hne
        have hcle := hcOk.le
        have t2 := hW.t2
        simp only [bindT_tup, bindTs_cons, bindTs_nil, bindT_nm, List.length_cons, List.length_nil, List.length_set]
        rw [if_pos (by simp), Option.bind_some, if_pos (by simp), Option.bind_some, wp_some]
        show Wp (exSs (Φ_even_of n) n _ ⟨[.val (wsD ws), .val (csD cs), .val (tpD ch), .un, .val (nI i'), .val (tpD c), j6, .un], P⟩) _
        refine wp_to (S1 := ⟨[.val (wsD ws), .val (csD cs), .val (tpD ch), .un, .val (nI i'), .val (tpD c), .val (.lst (l.map .int)), .un], P⟩) (by simp [readS, el, svOf, setS]) ?_
        refine wp_to (S1 := ⟨[.val (wsD ws), .val (csD cs), .val (tpD (ch ++ [pick l c])), .un, .val (nI i'), .val (tpD c), .val (.lst (l.map .int)), .un], P⟩) ?_ ?_
        · have tt : seqOf (tpD ch) = some (ch.map nI) := rfl
          have tl : (ch.map nI ++ [nI (pick l c)]).length ≤ 1000000 := by
            rw [List.length_append, List.length_map, List.length_singleton]
            omega
          simp [readS, tt]
          rw [ev_lc_s (h := nI) (xs := c) (fun t => prP (l.getD t 0, (t : Int))) (by simp [readS, tpD]) (by omega) (by simp [notOwn]) (fun t ht P => by
            have x1 := ix_at (l := l) (t := t) (by have := hcOk.lt t ht; omega)
            simp [lcGo_eq, wipeE, readS, x1, prP])]
          have i1 : idxD (prP (l.getD (pick l c) 0, ((pick l c : Nat) : Int))) (.int 1) = some (nI (pick l c)) := idx_1
          simp only [bindV_val, evs_nil, bindL_vals, BI.fn, hp1, pureV_some, ev_con, i1, tupS_ok tl, bindF_val]
          simp [svOf, setS, tpD]
        · exact wp_nil ⟨_, _, _, rfl⟩
      · rintro S ⟨j4, j5, j6, rfl⟩
        refine ⟨j4, j5, j6, ?_⟩
        rw [List.length_zipIdx, List.take_length]
    · rintro S ⟨j4, j5, j6, rfl⟩
      obtain ⟨d0, e0, b0⟩ := e_better (n := n) (P := P) hn hW hv
      refine wp_to (S1 := ⟨[.val (wsD ws), .val (csD cs), .val (tpD (chs ws cs)), .val d0, j4, j5, j6, .un], P⟩) (by simp [readS, e0, svOf, setS]) ?_
      refine wp_st0 (fun S => ∃ ch, Val ws.length cs ch ∧ Even ws cs ch ∧ S = ⟨[.val (wsD ws), .val (csD cs), .val (tpD ch), .val .non, j4, j5, j6, .un], P⟩) (wp_while (fun μ S => ∃ ch d, Val ws.length cs ch ∧ BetD ws cs ch d ∧ (Gm ws cs ch).toNat = μ ∧ S = ⟨[.val (wsD ws), .val (csD cs), .val (tpD ch), .val d, j4, j5, j6, .un], P⟩) (Gm ws cs (chs ws cs)).toNat (by have := gm_ok hW hv; omega) ⟨_, _, hv, b0, rfl, rfl⟩ ?_) ?_
      · rintro μ S ⟨ch, d, hVc, hB, hμ, rfl⟩
        rcases hB with ⟨rfl, hE⟩ | ⟨new, rfl, hN⟩
        · exact ⟨.bl false, _, by simp [readS, Ev.isNon], .inl ⟨rfl, ch, hVc, hE, rfl⟩⟩
        · obtain ⟨d1, e1, b1⟩ := e_better (n := n) (P := P) hn hW hN.1
          have hg := hN.G hVc
          have g1 := gm_ok hW hVc
          have g2 := gm_ok hW hN.1
          refine ⟨.bl true, ⟨[.val (wsD ws), .val (csD cs), .val (tpD ch), .val (tpD new), j4, j5, j6, .un], P⟩, by simp [readS, Ev.isNon, tpD], .inr ⟨rfl, ?_⟩⟩
          refine wp_to (S1 := ⟨[.val (wsD ws), .val (csD cs), .val (tpD new), .val d1, j4, j5, j6, .un], P⟩) (by simp [readS, e1, svOf, setS]) ?_
          refine wp_nil ⟨(Gm ws cs new).toNat, ?_, new, d1, hN.1, b1, rfl, rfl⟩
          rw [← hμ]
          unfold Gm at *
          omega
      · rintro S ⟨ch, hVc, hE, rfl⟩
        simp [readS]
        exact ⟨ch, rfl, hVc, hE⟩
  obtain ⟨x, e, ch, rfl, h⟩ := main
  exact ⟨ch, e, h⟩
theorem e_even_choice (hn : 100000 ≤ n) {ws : List Int} {cs : List (List Nat)} (hW : WOk ws cs) : ∃ ch, (∀ P, F_even_choice n [wsD ws, csD cs] P = F_even_of n [wsD ws, csD cs] P) ∧ F_even_choice n [wsD ws, csD cs] P = some (.val (tpD ch), P) ∧ Val ws.length cs ch ∧ Even ws cs ch := by
  obtain ⟨ch, e, h⟩ := e_even_of (n := n) (P := P) hn hW
  refine ⟨ch, fun P => ?_, ?_, h⟩
  · obtain ⟨ch, e, h⟩ := e_even_of (n := n) (P := P) hn hW
    simp [F_even_choice, fnF, a_even_choice, ps_even_choice, N_even_choice, readS, e_check_wear hW, e]
  · simp [F_even_choice, fnF, a_even_choice, ps_even_choice, N_even_choice, readS, e_check_wear hW, e]
theorem e_is_even (hn : 100000 ≤ n) {ws : List Int} {cs : List (List Nat)} {ch : List Nat} (hW : WOk ws cs) (hV : Val ws.length cs ch) : ∃ b, F_is_even n [wsD ws, csD cs, tpD ch] P = some (.val (.bl b), P) ∧ (b = true ↔ Even ws cs ch) := by
  obtain ⟨d, e, h⟩ := e_better (n := n) (P := P) hn hW hV
  refine ⟨Ev.isNon d, ?_, ?_⟩
  · simp [F_is_even, fnF, a_is_even, ps_is_even, N_is_even, readS, e_check_wear hW, e_is_choice hW.t2 hW.m hV, e]
  · rcases h with ⟨rfl, hE⟩ | ⟨new, rfl, hN⟩
    · exact ⟨fun _ => hE, fun _ => rfl⟩
    · exact ⟨fun z => (nomatch z), fun z => absurd z hN.not⟩
theorem e_chain (hn : 100000 ≤ n) {ws : List Int} {cs : List (List Nat)} {ch : List Nat} (hW : WOk ws cs) (hV : Val ws.length cs ch) : ∃ d, F_chain n [wsD ws, csD cs, tpD ch] P = some (.val d, P) ∧ BetD ws cs ch d := by
  obtain ⟨d, e, h⟩ := e_better (n := n) (P := P) hn hW hV
  refine ⟨d, ?_, h⟩
  simp [F_chain, fnF, a_chain, ps_chain, N_chain, readS, e_check_wear hW, e_is_choice hW.t2 hW.m hV, e]
end K62

set_option Elab.async false
set_option linter.all false
set_option maxRecDepth 100000
set_option maxHeartbeats 4000000
/-! worn: what lots need, the most worn -/
namespace K62
open PySem PySem.Spec PyProof.Rows L2 Ev K71 Wn
variable {n : Nat} {P : Pt}
theorem maxL_in {l : List Int} (h : l ≠ []) : maxL l ∈ l := by
  cases l with
  | nil => exact absurd rfl h
  | cons x xs =>
    rcases fold_max_mem xs x with e | e
    · show xs.foldl max x ∈ x :: xs
      rw [e]
      exact List.mem_cons_self
    · exact List.mem_cons_of_mem _ e
theorem maxL_ge {l : List Int} {x : Int} (h : x ∈ l) : x ≤ maxL l := by
  cases l with
  | nil => cases h
  | cons y ys =>
    obtain ⟨h1, h2⟩ := fold_max_ge ys y
    rcases List.mem_cons.mp h with rfl | h
    · exact h1
    · exact h2 x h
theorem min_ints {l : List Int} (h : l ≠ []) : bestF lessD [.lst (l.map .int)] = some (.int (minL l)) := by
  cases l with
  | nil => exact absurd rfl h
  | cons x xs => exact best_min x xs
theorem max_ints {l : List Int} (h : l ≠ []) : bestF gtD [.lst (l.map .int)] = some (.int (maxL l)) := by
  cases l with
  | nil => exact absurd rfl h
  | cons x xs => exact best_max x xs
theorem max_intsT {l : List Int} (h : l ≠ []) : bestF gtD [.tup (l.map .int)] = some (.int (maxL l)) := by
  cases l with
  | nil => exact absurd rfl h
  | cons x xs => exact best_max x xs
theorem ixo {l : List Int} {x : Int} (h : x ∈ l) : idxOfF (.lst (l.map .int)) [.int x] = some (.int (l.idxOf x : Nat)) := by
  show (intsOf (l.map .int)).bind (fun ns => if x ∈ ns then some (D.int (ns.idxOf x : Nat)) else none) = _
  rw [intsOf_map, Option.bind_some, if_pos h]
theorem eq_nil (c : List Nat) : cmpB .eq (tpD c) (.tup []) = some c.isEmpty := by
  unfold tpD
  rw [cmp_eqD, eqD_pl (pl_tup pl_nI) (pl_tup (by simp [D.plL]))]
  cases c <;> simp [D.py, D.pyL, PyData.eqv, PyData.eqvAll]
theorem ne_nil (c : List Nat) : cmpB .ne (tpD c) (.tup []) = some (!c.isEmpty) := by
  have := eq_nil c
  rw [cmp_eqD] at this
  rw [cmp_neD, this]
  rfl
theorem L_mem {ws : List Int} {ch : List Nat} {t : Nat} (h : t < ws.length) : L ws ch t ∈ ld ws ch := by
  have htl : t < (ld ws ch).length := by rw [ld_len]; exact h
  unfold L
  rw [List.getD_eq_getElem?_getD, List.getElem?_eq_getElem htl]
  exact List.getElem_mem _
theorem mem_L {ws : List Int} {ch : List Nat} {x : Int} (h : x ∈ ld ws ch) : ∃ t, t < ws.length ∧ L ws ch t = x := by
  obtain ⟨i, hi⟩ := List.mem_iff_getElem?.mp h
  have hil := (List.getElem?_eq_some_iff.mp hi).1
  rw [ld_len] at hil
  refine ⟨i, hil, ?_⟩
  unfold L
  rw [List.getD_eq_getElem?_getD, hi]
  rfl
theorem get_mem {ws : List Int} {t : Nat} (h : t < ws.length) : ws.getD t 0 ∈ ws := by
  rw [List.getD_eq_getElem?_getD, List.getElem?_eq_getElem h]
  exact List.getElem_mem _
theorem pw_zip {l : List Nat} (h : l.Pairwise (· < ·)) : ∀ p ∈ l.zip (l.drop 1), p.1 < p.2 := by
  induction l with
  | nil => intro p hp; simp at hp
  | cons x l ih =>
    intro p hp
    cases l with
    | nil => simp at hp
    | cons y r =>
      rw [List.pairwise_cons] at h
      have e : (x :: y :: r).zip ((x :: y :: r).drop 1) = (x, y) :: (y :: r).zip ((y :: r).drop 1) := rfl
      rw [e] at hp
      rcases List.mem_cons.mp hp with rfl | hp
      · exact h.1 y List.mem_cons_self
      · exact ih h.2 p hp
/-! ### dicts from tapes to true -/
def tK (U : List Nat) : List D := U.map nI
def tV (U : List Nat) : List D := U.map fun _ => D.bl true
def addU (U : List Nat) (t : Nat) : List Nat := if t ∈ U then U else U ++ [t]
theorem look_T (x : Nat) : ∀ U : List Nat, (lookD (tK U) (tV U) (nI x)).isSome = decide (x ∈ U)
  | [] => rfl
  | u :: U => by
    have ih := look_T x U
    unfold tK tV at *
    rw [List.map_cons, List.map_cons, lookD]
    by_cases e : u = x
    · rw [if_pos (by rw [e])]
      simp [e]
    · rw [if_neg (fun z => e (nat_inj _ _ z)), ih]
      have : ¬ x = u := fun z => e z.symm
      simp [this]
theorem repl_T (x : Nat) : ∀ U : List Nat, replD (tK U) (tV U) (nI x) (.bl true) = tV U
  | [] => rfl
  | u :: U => by
    have ih := repl_T x U
    unfold tK tV at *
    rw [List.map_cons, List.map_cons, replD, ih]
    simp
theorem put_T (U : List Nat) (t : Nat) : putD (tK U) (tV U) (nI t) (.bl true) = (tK (addU U t), tV (addU U t)) := by
  unfold putD addU
  rw [look_T, repl_T]
  by_cases h : t ∈ U
  · simp [h]
  · simp [h, tK, tV]
theorem merge_T : ∀ (c U : List Nat), mergeD (tK U) (tV U) (tK c) (tV c) = (tK (c.foldl addU U), tV (c.foldl addU U))
  | [], U => by simp [tK, tV, mergeD]
  | t :: c, U => by
    have ih := merge_T c (addU U t)
    have e : mergeD (tK U) (tV U) (tK (t :: c)) (tV (t :: c)) = mergeD (putD (tK U) (tV U) (nI t) (.bl true)).1 (putD (tK U) (tV U) (nI t) (.bl true)).2 (tK c) (tV c) := by
      show mergeD (tK U) (tV U) (nI t :: tK c) (.bl true :: tV c) = _
      rw [mergeD]
    rw [e, put_T]
    exact ih
theorem dc_T {f : D → Pt → Option ((D × D) × Pt)} : ∀ {c U : List Nat} {P : Pt}, (∀ x ∈ c, ∀ P, f (nI x) P = some ((nI x, .bl true), P)) → dcRun f (c.map nI) (tK U, tV U) P = some ((tK (c.foldl addU U), tV (c.foldl addU U)), P)
  | [], U, P, _ => rfl
  | t :: c, U, P, h => by
    rw [List.map_cons, dcRun, h t List.mem_cons_self, Option.bind_some]
    dsimp only
    rw [if_pos (show isK (nI t) = true from rfl), put_T]
    exact dc_T fun x hx => h x (List.mem_cons_of_mem _ hx)
theorem addU_mem {U : List Nat} {t x : Nat} : x ∈ addU U t ↔ x ∈ U ∨ x = t := by
  unfold addU
  split
  · rename_i h
    constructor
    · exact .inl
    · rintro (h' | rfl)
      · exact h'
      · exact h
  · simp
theorem addU_nd {U : List Nat} {t : Nat} (h : U.Nodup) : (addU U t).Nodup := by
  unfold addU
  split
  · exact h
  · rename_i q
    exact List.nodup_append.mpr ⟨h, by simp, fun a ha b hb => by
      simp at hb
      rw [hb]
      exact fun e => q (e ▸ ha)⟩
theorem adds_mem {x : Nat} : ∀ {c U : List Nat}, x ∈ c.foldl addU U ↔ x ∈ U ∨ x ∈ c
  | [], U => by simp
  | t :: c, U => by
    rw [List.foldl_cons, adds_mem, addU_mem]
    simp only [List.mem_cons]
    constructor
    · rintro ((h | h) | h)
      · exact .inl h
      · exact .inr (.inl h)
      · exact .inr (.inr h)
    · rintro (h | h | h)
      · exact .inl (.inl h)
      · exact .inl (.inr h)
      · exact .inr h
theorem adds_nd : ∀ {c U : List Nat}, U.Nodup → (c.foldl addU U).Nodup
  | [], _, h => h
  | t :: c, U, h => adds_nd (c := c) (addU_nd h)
/-- all tapes that have some of the asks -/
def uni (cs : List (List Nat)) (lot : List Nat) : List Nat := lot.foldl (fun U a => ((cs.getD a []).foldl addU []).foldl addU U) []
theorem uni_fold {cs : List (List Nat)} {x : Nat} : ∀ {lot U : List Nat}, x ∈ lot.foldl (fun U a => ((cs.getD a []).foldl addU []).foldl addU U) U ↔ x ∈ U ∨ ∃ a ∈ lot, x ∈ cs.getD a []
  | [], U => by simp
  | a :: lot, U => by
    rw [List.foldl_cons, uni_fold, adds_mem, adds_mem]
    simp only [List.mem_cons, List.not_mem_nil, false_or]
    constructor
    · rintro ((h | h) | ⟨b, hb, h⟩)
      · exact .inl h
      · exact .inr ⟨a, .inl rfl, h⟩
      · exact .inr ⟨b, .inr hb, h⟩
    · rintro (h | ⟨b, rfl | hb, h⟩)
      · exact .inl (.inl h)
      · exact .inl (.inr h)
      · exact .inr ⟨b, hb, h⟩
theorem getD_has {cs : List (List Nat)} {lot : List Nat} {x : Nat} : (∃ a ∈ lot, x ∈ cs.getD a []) ↔ Has cs lot x := by
  constructor
  · rintro ⟨a, ha, h⟩
    cases e : cs[a]? with
    | none =>
      rw [List.getD_eq_getElem?_getD, e] at h
      cases h
    | some c =>
      rw [List.getD_eq_getElem?_getD, e] at h
      exact ⟨a, ha, c, e, h⟩
  · rintro ⟨a, ha, c, e, h⟩
    refine ⟨a, ha, ?_⟩
    rw [List.getD_eq_getElem?_getD, e]
    exact h
theorem uni_mem {cs : List (List Nat)} {lot : List Nat} (x : Nat) : x ∈ uni cs lot ↔ Has cs lot x := by
  unfold uni
  rw [uni_fold]
  simp only [List.not_mem_nil, false_or]
  exact getD_has
theorem uni_nd (cs : List (List Nat)) (lot : List Nat) : (uni cs lot).Nodup := by
  have key : ∀ (lot U : List Nat), U.Nodup → (lot.foldl (fun U a => ((cs.getD a []).foldl addU []).foldl addU U) U).Nodup := by
    intro lot
    induction lot with
    | nil => exact fun _ h => h
    | cons a lot ih => exact fun U h => ih _ (adds_nd h)
  exact key lot [] (by simp)
theorem uni_take {cs : List (List Nat)} {lot : List Nat} {i a : Nat} (h : lot[i]? = some a) : uni cs (lot.take (i + 1)) = ((cs.getD a []).foldl addU []).foldl addU (uni cs (lot.take i)) := by
  unfold uni
  rw [List.take_add_one, h]
  simp [List.foldl_append]
theorem has_lt {T : Nat} {cs : List (List Nat)} {lot : List Nat} {t : Nat} (h : ∀ c ∈ cs, CpOk T c) (q : Has cs lot t) : t < T := by
  obtain ⟨a, _, c, hc, hm⟩ := q
  exact (h c (List.mem_of_getElem? hc)).lt t hm
theorem sum_below (h : Int) : ∀ l : List Int, ((l.filter fun x => decide (x < h)).map fun x => h - x).sum = (l.map fun x => max 0 (h - x)).sum
  | [] => rfl
  | x :: l => by
    have ih := sum_below h l
    rw [List.filter_cons, List.map_cons, List.sum_cons, ← ih]
    by_cases q : x < h
    · simp [q]
      omega
    · simp [q]
      omega
theorem fill_one {ws : List Int} {U : List Nat} {u : Nat} (h : u ∈ U) (k : Int) : k - ws.getD u 0 ≤ fill ws U k := by
  induction U with
  | nil => cases h
  | cons v U ih =>
    have pos : 0 ≤ fill ws U k := by
      have := sum_le (l := U) (f := fun _ => 0) (g := fun t => max 0 (k - ws.getD t 0)) fun t _ => by omega
      unfold Wn.fill
      have z : (U.map fun _ => (0 : Int)).sum = 0 := by
        clear ih h this
        induction U with
        | nil => rfl
        | cons _ _ ih => simp [ih]
      omega
    have e : fill ws (v :: U) k = max 0 (k - ws.getD v 0) + fill ws U k := by simp [Wn.fill]
    rcases List.mem_cons.mp h with rfl | h
    · omega
    · have := ih h
      omega
theorem fill_none {ws : List Int} {U : List Nat} {k : Int} (h : ∀ t ∈ U, k ≤ ws.getD t 0) : fill ws U k = 0 := by
  induction U with
  | nil => rfl
  | cons v U ih =>
    have e : fill ws (v :: U) k = max 0 (k - ws.getD v 0) + fill ws U k := by simp [Wn.fill]
    rw [e, ih fun t ht => h t (List.mem_cons_of_mem _ ht)]
    have := h v List.mem_cons_self
    omega

theorem e_asks_for (hn : 100000 ≤ n) {ws : List Int} {cs : List (List Nat)} {lot : List Nat} (hW : WOk ws cs) (h1 : lot ≠ []) (h20 : lot.length ≤ 20) (hc : ∀ a ∈ lot, a < cs.length) : ∃ h, F_asks_for n [wsD ws, csD cs, tpD lot] P = some (.val (.int h), P) ∧ Lv ws (uni cs lot) lot.length h := by
  have m20 := hW.m
  have t2 := hW.t2
  have l1 : 1 ≤ lot.length := by
    cases lot with
    | nil => exact absurd rfl h1
    | cons _ _ => simp
  have llot : lenF [tpD lot] = some (.int lot.length) := by
    show some (D.int ((lot.map nI).length : Nat)) = _
    simp
  have hlt : ∀ t ∈ uni cs lot, t < ws.length := fun t ht => has_lt hW.c ((uni_mem t).mp ht)
  have hU12 : ∀ i, (uni cs (lot.take i)).length ≤ 12 := fun i => Nat.le_trans (keys_len (uni_nd _ _) fun t ht => has_lt hW.c ((uni_mem t).mp ht)) t2
  have hne : uni cs lot ≠ [] := fun e => by
    obtain ⟨a, r, rfl⟩ := List.exists_cons_of_ne_nil h1
    have ha := hc a List.mem_cons_self
    have hcs : cs[a]? = some cs[a] := List.getElem?_eq_getElem ha
    obtain ⟨t, c, ec⟩ := List.exists_cons_of_ne_nil (hW.c _ (List.mem_of_getElem? hcs)).nn
    have : t ∈ uni cs (a :: r) := (uni_mem t).mpr ⟨a, List.mem_cons_self, _, hcs, by rw [ec]; exact List.mem_cons_self⟩
    rw [e] at this
    cases this
  have main : Wp (F_asks_for n [wsD ws, csD cs, tpD lot] P) (fun x => ∃ h, x = (.val (.int h), P) ∧ Lv ws (uni cs lot) lot.length h) := by
    refine fn_wp rfl ?_
    simp only [a_asks_for, ps_asks_for, N_asks_for]
    refine wp_to (S1 := ⟨[.val (wsD ws), .val (csD cs), .val (tpD lot), .od false (tK []) (tV []), .un, .un, .un, .un, .un, .un], P⟩) (by simp [svOf, setS, tK, tV]) ?_
    refine wp_st0 (fun S => ∃ j4, S = ⟨[.val (wsD ws), .val (csD cs), .val (tpD lot), .od false (tK (uni cs lot)) (tV (uni cs lot)), j4, .un, .un, .un, .un, .un], P⟩) ?_ ?_
    · refine wp_forr (h := nI) (xs := lot) (S1 := ⟨[.val (wsD ws), .val (csD cs), .val (tpD lot), .od false (tK []) (tV []), .un, .un, .un, .un, .un, .un], P⟩) (by simp [readS, tpD]) (fun i S => ∃ j4, S = ⟨[.val (wsD ws), .val (csD cs), .val (tpD lot), .od false (tK (uni cs (lot.take i))) (tV (uni cs (lot.take i))), j4, .un, .un, .un, .un, .un], P⟩) ⟨_, rfl⟩ ?_ ?_
      · rintro i a S hx ⟨j4, rfl⟩
        have ha := hc a (List.mem_of_getElem? hx)
        have hcs : cs[a]? = some cs[a] := List.getElem?_eq_getElem ha
        have hgd : cs.getD a [] = cs[a] := by rw [List.getD_eq_getElem?_getD, hcs]; rfl
        have ixc := ix_cs hcs
        have hcOk := hW.c _ (List.mem_of_getElem? hcs)
        have hu := hU12 i
        rw [uni_take hx, hgd]
        generalize cs[a] = c at *
        generalize uni cs (lot.take i) = U at *
        have hcl := hcOk.le
        simp only [bindT_nm, List.length_cons, List.length_nil]
        rw [if_pos (by simp), wp_some]
        show Wp (exSs (Φ_asks_for n) n _ ⟨[.val (wsD ws), .val (csD cs), .val (tpD lot), .od false (tK U) (tV U), .val (nI a), .un, .un, .un, .un, .un], P⟩) _
        have edc : ev (Φ_asks_for n) (.dc (.slot 8) (.con (.bl true)) (.nm 8) (.seq (.idx (.slot 1) (.slot 4))) [8]) false true ⟨[.val (wsD ws), .val (csD cs), .val (tpD lot), .od false (tK U) (tV U), .val (nI a), .un, .un, .un, .un, .un], P⟩ = some (.val (.dct false (tK (c.foldl addU [])) (tV (c.foldl addU []))), ⟨[.val (wsD ws), .val (csD cs), .val (tpD lot), .od false (tK U) (tV U), .val (nI a), .un, .un, .un, .un, .un], P⟩) := by
          rw [ev_dc]
          have h1 : c.length < LIM := Nat.lt_of_lt_of_le (show c.length < 1000000 by omega) (by decide)
          have ed := dc_T (f := dcBody (.nm 8) (wipeE (⟨[.val (wsD ws), .val (csD cs), .val (tpD lot), .od false (tK U) (tV U), .val (nI a), .un, .un, .un, .un, .un], P⟩ : St').env [8]) (ev (Φ_asks_for n) (.slot 8) false false) (ev (Φ_asks_for n) (.con (.bl true)) false false)) (c := c) (U := []) (P := P) fun x hx P => by
            simp [dcBody, wipeE, readS]
          have sq : seqOf (tpD c) = some (c.map nI) := rfl
          simp [readS, ixc, notOwn, sq, h1]
          simp [wipeE, tK, tV] at ed ⊢
          rw [ed]
        have hnd : (c.foldl addU []).length ≤ 12 := by
          have := keys_len (T := ws.length) (adds_nd (c := c) (U := []) (by simp)) fun x hx => by
            rcases adds_mem.mp hx with h | h
            · cases h
            · exact hcOk.lt x h
          omega
        have hmg := merge_T (c.foldl addU []) U
        have hl : (tK U).length + (tK (c.foldl addU [])).length ≤ LIM := Nat.le_trans (show _ ≤ 1000000 by simp [tK]; omega) (by decide)
        refine wp_to (S1 := ⟨[.val (wsD ws), .val (csD cs), .val (tpD lot), .od false (tK ((c.foldl addU []).foldl addU U)) (tV ((c.foldl addU []).foldl addU U)), .val (nI a), .un, .un, .un, .un, .un], P⟩) (by simp [odAt, edc, updD, hl, hmg, setS]) (wp_nil ⟨_, rfl⟩)
      · rintro S ⟨j4, rfl⟩
        rw [List.take_length]
        exact ⟨_, rfl⟩
    · rintro S ⟨j4, rfl⟩
      have hu := hU12 lot.length
      rw [List.take_length] at hu
      have hund := uni_nd cs lot
      generalize uni cs lot = U at *
      have hwne : (U.map fun t => ws.getD t 0) ≠ [] := fun e => hne (List.map_eq_nil_iff.mp e)
      have hmin := minL_in hwne
      have hmle : ∀ t ∈ U, minL (U.map fun t => ws.getD t 0) ≤ ws.getD t 0 := fun t ht => minL_le (List.mem_map.mpr ⟨t, ht, rfl⟩)
      have mn := min_ints hwne
      obtain ⟨u, hu1, hu2⟩ := List.mem_map.mp hmin
      generalize hm0 : minL (U.map fun t => ws.getD t 0) = m0 at *
      have hf0 : fill ws U m0 = 0 := fill_none hmle
      refine wp_to (S1 := ⟨[.val (wsD ws), .val (csD cs), .val (tpD lot), .od false (tK U) (tV U), j4, .un, .val (.lst ((U.map fun t => ws.getD t 0).map .int)), .val (.int lot.length), .un, .un], P⟩) ?_ ?_
      · simp only [exS_par2]
        rw [ev_lc_s (h := nI) (xs := U) (fun t => .int (ws.getD t 0)) (by simp [readS, tK]) (by omega) (by simp [notOwn]) (fun x hx P => by
          have ixw := ix_atT (l := ws) (t := x) (hlt x hx)
          have ixw : idxD (wsD ws) (.int (x : Nat)) = some (.int (ws.getD x 0)) := ixw
          simp [lcGo_eq, wipeE, readS, ixw])]
        simp [svOf, readS, BI.fn, llot, setS]
      have nn : cmpB .ne (.lst ((U.map fun t => ws.getD t 0).map .int)) (.lst []) = some true := by
        rw [cmp_neD, eqD_pl (pl_lst (plL_ints _ _)) (pl_lst (by simp [D.plL]))]
        obtain ⟨v, V, rfl⟩ := List.exists_cons_of_ne_nil hne
        simp [D.py, D.pyL, PyData.eqv, PyData.eqvAll]
      generalize hwl : (U.map fun t => ws.getD t 0) = wl at *
      have hfl : ∀ k, fill ws U k = (wl.map fun x => max 0 (k - x)).sum := fun k => by
        rw [← hwl, List.map_map]
        rfl
      refine wp_to (S1 := ⟨[.val (wsD ws), .val (csD cs), .val (tpD lot), .od false (tK U) (tV U), j4, .val (.int m0), .val (.lst (wl.map .int)), .val (.int lot.length), .un, .un], P⟩) (by simp [readS, nn, BI.fn, mn, svOf, setS]) ?_
      refine wp_st0 (fun S => ∃ h left, Lv ws U lot.length h ∧ S = ⟨[.val (wsD ws), .val (csD cs), .val (tpD lot), .od false (tK U) (tV U), j4, .val (.int h), .val (.lst (wl.map .int)), left, .un, .un], P⟩) (wp_while (fun μ S => ∃ h, m0 ≤ h ∧ (h = m0 ∨ fill ws U (h - 1) < lot.length) ∧ (m0 + lot.length + 1 - h).toNat = μ ∧ S = ⟨[.val (wsD ws), .val (csD cs), .val (tpD lot), .od false (tK U) (tV U), j4, .val (.int h), .val (.lst (wl.map .int)), .val (.int ((lot.length : Int) - fill ws U h)), .un, .un], P⟩) (m0 + lot.length + 1 - m0).toNat (by omega) ⟨m0, Int.le_refl _, .inl rfl, rfl, by rw [hf0]; simp⟩ ?_) ?_
      · rintro μ S ⟨h, hh, hor, hμ, rfl⟩
        by_cases q : fill ws U h < lot.length
        · have q2 := fill_one (ws := ws) hu1 h
          refine ⟨.bl true, ⟨[.val (wsD ws), .val (csD cs), .val (tpD lot), .od false (tK U) (tV U), j4, .val (.int h), .val (.lst (wl.map .int)), .val (.int ((lot.length : Int) - fill ws U h)), .un, .un], P⟩, by simp [readS]; omega, .inr ⟨rfl, ?_⟩⟩
          refine wp_to (S1 := ⟨[.val (wsD ws), .val (csD cs), .val (tpD lot), .od false (tK U) (tV U), j4, .val (.int (h + 1)), .val (.lst (wl.map .int)), .val (.int ((lot.length : Int) - fill ws U h)), .un, .un], P⟩) (by simp [readS, svOf, setS]) ?_
          refine wp_to (S1 := ⟨[.val (wsD ws), .val (csD cs), .val (tpD lot), .od false (tK U) (tV U), j4, .val (.int (h + 1)), .val (.lst (wl.map .int)), .val (.int ((lot.length : Int) - fill ws U (h + 1))), .un, .un], P⟩) ?_ ?_
          · simp [readS, BI.fn, llot]
            rw [ev_lc_sf (h := D.int) (xs := wl) (fun x => decide (x < h + 1)) (fun x => .int (h + 1 - x)) (by simp [readS]) (by rw [← hwl]; simp; omega) (by simp [notOwn]) (fun x hx P => by
              simp [lcGo_eq, wipeE, readS])]
            have sm : sumF [.lst ((wl.filter fun x => decide (x < h + 1)).map fun x => D.int (h + 1 - x))] = some (.int (fill ws U (h + 1))) := by
              rw [hfl, ← sum_below]
              exact sum_lstf
            simp [sm, svOf, setS]
          · exact wp_nil ⟨(m0 + lot.length + 1 - (h + 1)).toNat, by omega, h + 1, by omega, .inr (by simpa using q), rfl, rfl⟩
        · refine ⟨.bl false, ⟨[.val (wsD ws), .val (csD cs), .val (tpD lot), .od false (tK U) (tV U), j4, .val (.int h), .val (.lst (wl.map .int)), .val (.int ((lot.length : Int) - fill ws U h)), .un, .un], P⟩, by simp [readS]; omega, .inl ⟨rfl, h, _, ⟨by omega, ?_⟩, rfl⟩⟩
          rcases hor with rfl | q2
          · omega
          · exact q2
      · rintro S ⟨h, left, hL, rfl⟩
        simp [readS]
        exact hL
  obtain ⟨x, e, h, rfl, hL⟩ := main
  exact ⟨h, e, hL⟩
theorem e_check_lot {cs : List (List Nat)} {lot : List Nat} (m20 : cs.length ≤ 20) (hl : lot.length ≤ cs.length) (hc : ∀ a ∈ lot, a < cs.length) (hu : lot.Pairwise (· < ·)) : F_check_lot n [csD cs, tpD lot] P = some (.val .non, P) := by
  have a3 : (lot.length : Int) ≤ cs.length := by omega
  have et := e_is_tuple_t (n := n) (P := P) (lot.map nI) 0 cs.length
  simp only [List.length_map, a3, decide_true, Bool.and_true] at et
  simp at et
  have er : F_is_rising n [.tup (lot.map nI)] P = some (.val (.bl true), P) := e_is_rising (by omega) (pw_zip hu)
  refine fn_eq rfl ?_
  simp [a_check_lot, ps_check_lot, N_check_lot, readS, csD, tpD, BI.fn, et]
  rw [ev_lc_s (h := nI) (xs := lot) (fun _ => .bl true) (by simp [readS]) (by omega) (by simp [notOwn]) (fun x hx P => by
    have := hc x hx
    have b1 : (x : Int) ≤ cs.length - 1 := by omega
    simp [lcGo_eq, wipeE, readS, BI.fn, e_is_integer, b1])]
  simp [readS, er]
theorem e_needs (hn : 100000 ≤ n) {ws : List Int} {cs : List (List Nat)} {lot : List Nat} (hW : WOk ws cs) (h1 : lot ≠ []) (hl : lot.length ≤ cs.length) (hc : ∀ a ∈ lot, a < cs.length) (hu : lot.Pairwise (· < ·)) : ∃ h, F_needs n [wsD ws, csD cs, tpD lot] P = some (.val (.int h), P) ∧ Lv ws (uni cs lot) lot.length h := by
  have e1 := e_check_wear (n := n) (P := P) hW
  have e2 := e_check_lot (n := n) (P := P) hW.m hl hc hu
  obtain ⟨h, e3, hL⟩ := e_asks_for (n := n) (P := P) hn hW h1 (by have := hW.m; omega) hc
  exact ⟨h, by simp [F_needs, fnF, a_needs, ps_needs, N_needs, readS, e1, e2, e3], hL⟩
/-! ### the most worn -/
/-- a lot that is told: nothing, or what needs as much -/
def LotOk (ws : List Int) (cs : List (List Nat)) (lot : List Nat) (top : Int) : Prop := (lot = [] ∧ top = maxL ws) ∨ (lot ≠ [] ∧ lot.length ≤ cs.length ∧ (∀ a ∈ lot, a < cs.length) ∧ lot.Pairwise (· < ·) ∧ Lv ws (uni cs lot) lot.length top)

theorem e_lot_for (hn : 100000 ≤ n) {ws : List Int} {cs : List (List Nat)} {ch : List Nat} (hW : WOk ws cs) (hV : Val ws.length cs ch) (hE : Even ws cs ch) : ∃ lot, F_lot_for n [wsD ws, csD cs, tpD ch] P = some (.val (tpD lot), P) ∧ LotOk ws cs lot (maxL (ld ws ch)) := by
  have m20 := hW.m
  have hl := hV.len
  have el := e_loads (n := n) (P := P) hV.tl
  have hlen := ld_len ch ws
  have hne := ld_ne hW.ne ch
  have mx := max_ints hne
  have mw : bestF gtD [wsD ws] = some (.int (maxL ws)) := max_intsT hW.ne
  have hin := maxL_in hne
  have hix := ixo hin
  have hlt : (ld ws ch).idxOf (maxL (ld ws ch)) < ws.length := by
    rw [← hlen]
    exact List.idxOf_lt_length_of_mem hin
  have hat : L ws ch ((ld ws ch).idxOf (maxL (ld ws ch))) = maxL (ld ws ch) := by
    unfold L
    have h1 : (ld ws ch).idxOf (maxL (ld ws ch)) < (ld ws ch).length := by omega
    rw [List.getD_eq_getElem?_getD, List.getElem?_eq_getElem h1, List.getElem_idxOf h1]
    rfl
  obtain ⟨A, eA, hF, hS⟩ := e_reached (n := n) (P := P) hn hW hV hlt
  have main : Wp (F_lot_for n [wsD ws, csD cs, tpD ch] P) (fun x => ∃ lot, x = (.val (tpD lot), P) ∧ LotOk ws cs lot (maxL (ld ws ch))) := by
    refine fn_wp rfl ?_
    simp only [a_lot_for, ps_lot_for, N_lot_for]
    refine wp_to (S1 := ⟨[.val (wsD ws), .val (csD cs), .val (tpD ch), .val (.lst ((ld ws ch).map .int)), .un, .un, .un], P⟩) (by simp [readS, el, svOf, setS]) ?_
    by_cases h : maxL (ld ws ch) = maxL ws
    · refine wp_ift (d := .bl true) (S1 := ⟨[.val (wsD ws), .val (csD cs), .val (tpD ch), .val (.lst ((ld ws ch).map .int)), .un, .un, .un], P⟩) (by simp [readS, BI.fn, mx, mw, h]) rfl ?_
      simp
      exact ⟨[], rfl, .inl ⟨rfl, h⟩⟩
    · refine wp_iff (d := .bl false) (S1 := ⟨[.val (wsD ws), .val (csD cs), .val (tpD ch), .val (.lst ((ld ws ch).map .int)), .un, .un, .un], P⟩) (by simp [readS, BI.fn, mx, mw, h]) rfl ?_
      refine wp_nil ?_
      refine wp_to (S1 := ⟨[.val (wsD ws), .val (csD cs), .val (tpD ch), .val (.lst ((ld ws ch).map .int)), .val (.dct false (kD A) (vD A)), .un, .un], P⟩) (by simp [readS, BI.fn, mx, isMix, hix, eA, svOf, setS]) ?_
      simp only [exSs_cons, exS_ret, ev_bi, evs_cons]
      rw [ev_lc_sf (h := fun (q : Nat × Nat) => D.tup [.int (q.2 : Nat), nI q.1]) (xs := ch.zipIdx) (fun q => decide (q.1 ∈ keys A)) (fun q => nI q.2) (by simp [readS, tpD, enumL_map0]) (by simp; omega) (by simp [notOwn]) (fun q hq P => by
        have e : (lkA (Ad A) q.1).isSome = decide (q.1 ∈ keys A) := by
          by_cases z : q.1 ∈ keys A
          · obtain ⟨_, _, _, e⟩ := lk_some z
            rw [e]
            simp [z]
          · rw [lk_none.mpr z]
            simp [z]
        simp [lcGo_eq, wipeE, readS, look_N, e])]
      have e9 : D.tup ((ch.zipIdx.filter fun q => decide (q.1 ∈ keys A)).map fun q => nI q.2) = tpD (lotOf ch fun t => decide (t ∈ keys A)) := by simp [tpD, lotOf]
      have hwl : ∀ t, t < ws.length → ws.getD t 0 < maxL (ld ws ch) := fun t ht => by
        have h1 := L_eq hV t
        have h2 := cnt_nonneg ch t
        have h3 := maxL_ge (L_mem (ch := ch) ht)
        have h4 : maxL ws ≤ maxL (ld ws ch) := by
          have := maxL_in hW.ne
          obtain ⟨i, hi⟩ := List.mem_iff_getElem?.mp this
          have hil := (List.getElem?_eq_some_iff.mp hi).1
          have g1 := L_eq hV i
          have g2 := cnt_nonneg ch i
          have g3 := maxL_ge (L_mem (ch := ch) hil)
          rw [List.getD_eq_getElem?_getD, hi] at g1
          simp only [Option.getD_some] at g1
          omega
        have h5 := maxL_ge (get_mem ht)
        omega
      have key := lot_needs hV hE hlt hat (fun t ht => maxL_ge (L_mem ht)) hwl (p := fun t => decide (t ∈ keys A)) (fun t ht => by simp [hF.all hS t]) (uni_nd cs (lotOf ch fun t => decide (t ∈ keys A))) uni_mem
      simp [BI.fn, e9]
      refine ⟨_, rfl, .inr ⟨key.1, ?_, fun a ha => ?_, lotOf_up _ _, key.2⟩⟩
      · rw [lotOf_len, ← hl]
        exact List.length_filter_le _ _
      · obtain ⟨t, ht, _⟩ := lotOf_mem.mp ha
        have := (List.getElem?_eq_some_iff.mp ht).1
        omega
  obtain ⟨x, e, lot, rfl, h⟩ := main
  exact ⟨lot, e, h⟩
theorem even_top {ws : List Int} {cs : List (List Nat)} {ch : List Nat} (hW : WOk ws cs) (hV : Val ws.length cs ch) (hE : Even ws cs ch) : Least ws cs (maxL (ld ws ch)) :=
  even_least hV hE (fun t ht => maxL_ge (L_mem ht)) (mem_L (maxL_in (ld_ne hW.ne ch)))
theorem e_least_wear (hn : 100000 ≤ n) {ws : List Int} {cs : List (List Nat)} (hW : WOk ws cs) : ∃ ch lot, F_least_wear n [wsD ws, csD cs] P = some (.val (.tup [.int (maxL (ld ws ch)), tpD ch, tpD lot]), P) ∧ Val ws.length cs ch ∧ Even ws cs ch ∧ LotOk ws cs lot (maxL (ld ws ch)) := by
  obtain ⟨ch, _, ee, hV, hE⟩ := e_even_choice (n := n) (P := P) hn hW
  obtain ⟨lot, elf, hL⟩ := e_lot_for (n := n) (P := P) hn hW hV hE
  have el := e_loads (n := n) (P := P) hV.tl
  have mx := max_ints (ld_ne hW.ne ch)
  refine ⟨ch, lot, ?_, hV, hE, hL⟩
  simp [F_least_wear, fnF, a_least_wear, ps_least_wear, N_least_wear, readS, ee, svOf, setS, el, BI.fn, mx, elf]
theorem top_le {ws : List Int} {cs : List (List Nat)} {ch : List Nat} (hW : WOk ws cs) (hV : Val ws.length cs ch) : 0 ≤ maxL (ld ws ch) ∧ maxL (ld ws ch) ≤ 1000020 := by
  obtain ⟨t, ht, e⟩ := mem_L (maxL_in (ld_ne hW.ne ch))
  have h1 := L_eq hV t
  have h2 := hW.w _ (get_mem ht)
  have h3 : cnt ch t ≤ ch.length := by
    unfold Wn.cnt
    have := List.length_filter_le (fun x => x == t) ch
    omega
  have h4 := cnt_nonneg ch t
  have := hV.len
  have := hW.m
  omega

theorem e_shows_least (hn : 100000 ≤ n) {ws : List Int} {cs : List (List Nat)} {ch lot : List Nat} (hW : WOk ws cs) (hV : Val ws.length cs ch) (hL : LotOk ws cs lot (maxL (ld ws ch))) : F_shows_least n [wsD ws, csD cs, .tup [.int (maxL (ld ws ch)), tpD ch, tpD lot]] P = some (.val (.bl true), P) := by
  have m20 := hW.m
  have ecw := e_check_wear (n := n) (P := P) hW
  have ech := e_is_choice (n := n) (P := P) hW.t2 hW.m hV
  have el := e_loads (n := n) (P := P) hV.tl
  have mx := max_ints (ld_ne hW.ne ch)
  have mw : bestF gtD [wsD ws] = some (.int (maxL ws)) := max_intsT hW.ne
  obtain ⟨b1, b2⟩ := top_le hW hV
  have b3 : maxL (ld ws ch) ≤ 2000000 := by omega
  have lcs : lenF [csD cs] = some (.int cs.length) := by
    show some (D.int ((cs.map tpD).length : Nat)) = _
    simp
  have sm : binD .mul (.int 2) (.int 1000000) = some (.int (2 * 1000000)) := bin_mulL (small_of (by omega) (by omega))
  have eqn := eq_nil lot
  have gen : lot.length ≤ cs.length ∧ (∀ a ∈ lot, a < cs.length) ∧ lot.Pairwise (· < ·) := by
    rcases hL with ⟨rfl, _⟩ | ⟨_, h1, h2, h3, _⟩
    · exact ⟨by simp, fun _ h => (nomatch h), List.Pairwise.nil⟩
    · exact ⟨h1, h2, h3⟩
  have er := e_is_rising (n := n) (P := P) (c := lot) (by omega) (pw_zip gen.2.2)
  have et := e_is_tuple_t (n := n) (P := P) (lot.map nI) 0 cs.length
  have a3 : (lot.length : Int) ≤ cs.length := by have := gen.1; omega
  simp only [List.length_map, a3, decide_true, Bool.and_true] at et
  simp at et
  have et : F_is_tuple n [tpD lot, .int 0, .int cs.length] P = some (.val (.bl true), P) := et
  generalize maxL (ld ws ch) = top at *
  refine fn_eq rfl ?_
  simp only [a_shows_least, ps_shows_least, N_shows_least]
  refine wp_to (S1 := ⟨[.val (wsD ws), .val (csD cs), .val (.tup [.int top, tpD ch, tpD lot]), .un, .un, .un, .un], P⟩) (by simp [readS, ecw]) ?_
  refine wp_iff (d := .bl false) (S1 := ⟨[.val (wsD ws), .val (csD cs), .val (.tup [.int top, tpD ch, tpD lot]), .un, .un, .un, .un], P⟩) (by simp [readS, e_is_tuple_t, e_is_integer, sm, b1, b3]) rfl ?_
  refine wp_nil ?_
  refine wp_to (S1 := ⟨[.val (wsD ws), .val (csD cs), .val (.tup [.int top, tpD ch, tpD lot]), .val (.int top), .val (tpD ch), .val (tpD lot), .un], P⟩) (by simp [readS]) ?_
  refine wp_iff (d := .bl false) (S1 := ⟨[.val (wsD ws), .val (csD cs), .val (.tup [.int top, tpD ch, tpD lot]), .val (.int top), .val (tpD ch), .val (tpD lot), .un], P⟩) (by simp [readS, ech, el, BI.fn, mx]) rfl ?_
  refine wp_nil ?_
  refine wp_iff (d := .bl false) (S1 := ⟨[.val (wsD ws), .val (csD cs), .val (.tup [.int top, tpD ch, tpD lot]), .val (.int top), .val (tpD ch), .val (tpD lot), .un], P⟩) ?_ rfl ?_
  · simp [readS, BI.fn, lcs, et]
    rw [ev_lc_s (h := nI) (xs := lot) (fun _ => .bl true) (by simp [readS, tpD]) (by omega) (by simp [notOwn]) (fun x hx P => by
      have := gen.2.1 x hx
      have b1 : (x : Int) ≤ cs.length - 1 := by omega
      simp [lcGo_eq, wipeE, readS, BI.fn, lcs, e_is_integer, b1])]
    simp
  refine wp_nil ?_
  refine wp_iff (d := .bl false) (S1 := ⟨[.val (wsD ws), .val (csD cs), .val (.tup [.int top, tpD ch, tpD lot]), .val (.int top), .val (tpD ch), .val (tpD lot), .un], P⟩) (by simp [readS, er]) rfl ?_
  refine wp_nil ?_
  rcases hL with ⟨rfl, h⟩ | ⟨h0, h1, h2, h3, h4⟩
  · simp only [List.isEmpty_nil] at eqn
    simp [readS, eqn, BI.fn, mw, h]
  · have e0 : lot.isEmpty = false := by
      cases lot with
      | nil => exact absurd rfl h0
      | cons _ _ => rfl
    obtain ⟨h, ea, hLv⟩ := e_asks_for (n := n) (P := P) hn hW h0 (by omega) h2
    have := lv_one hLv h4
    subst this
    rw [e0] at eqn
    simp [readS, eqn, ea]
end K62

set_option Elab.async false
set_option linter.all false
set_option maxRecDepth 100000
set_option maxHeartbeats 4000000
/-! what the law draws, its own room -/
namespace K62
open PySem PySem.Spec PyProof.Rows L2 Ev K71 Wn
variable {n : Nat} {P : Pt}
theorem e_of {k : Nat} (hP : PotOk k P) (hk : k ≤ 1000000) {ds : List D} (h1 : 1 ≤ ds.length) (h2 : ds.length ≤ 1000000) : ∃ d P', F__law_of n [.pot, .lst ds] P = some (.val d, P') ∧ d ∈ ds ∧ PotOk (k + 1) P' := of_ok (Φ__law_of__law_take n) takeK hP hk h1 h2
theorem e_oft {k : Nat} (hP : PotOk k P) (hk : k ≤ 1000000) {ds : List D} (h1 : 1 ≤ ds.length) (h2 : ds.length ≤ 1000000) : ∃ d P', F__law_of n [.pot, .tup ds] P = some (.val d, P') ∧ d ∈ ds ∧ PotOk (k + 1) P' := of_okt (Φ__law_of__law_take n) takeK hP hk h1 h2
theorem e_some {k : Nat} (hP : PotOk k P) {m : Nat} (hk : k + m ≤ 1000000) {ds : List D} (hm : m ≤ ds.length) (hd : ds.length ≤ 900000) : ∃ xs P', F__law_some n [.pot, .lst ds, .int m] P = some (.val (.lst xs), P') ∧ xs.length = m ∧ (∃ r, (xs ++ r).Perm ds) ∧ PotOk (k + m) P' := some_ok (Φ__law_some__law_take n) takeK hP hk hm hd
theorem up_nI (l : List Nat) : (upI l).map D.int = l.map nI := by simp
theorem sort_nI {l : List Nat} (h : l.length ≤ 1000000) : sortF [.lst (l.map nI)] = some (.lst ((leN l).map nI)) := by
  have := sort_ints (l := upI l) (by simpa using h)
  rw [up_leI, up_nI, up_nI] at this
  exact this
theorem cp_of {T : Nat} {l : List Nat} (nd : l.Nodup) (h1 : 1 ≤ l.length) (hl : ∀ x ∈ l, x < T) : CpOk T (leN l) := by
  have p := leN_perm l
  have lt : ∀ x ∈ leN l, x < T := fun x hx => hl x (p.mem_iff.mp hx)
  have nd2 : (leN l).Nodup := p.nodup_iff.mpr nd
  exact ⟨by rw [p.length_eq]; exact h1, keys_len nd2 lt, lt, pw_zip (leN_lt nd)⟩

theorem e_drawn {k0 : Nat} (hP : PotOk k0 P) (hk : k0 ≤ 900000) : ∃ ws cs P', F__law_drawn n [.pot] P = some (.val (.tup [wsD ws, csD cs]), P') ∧ PotOk (k0 + 200) P' ∧ ws.length = 12 ∧ (∀ x ∈ ws, 0 ≤ x ∧ x ≤ 5) ∧ cs.length = 20 ∧ ∀ c ∈ cs, CpOk 12 c ∧ c.length ≤ 3 := by
  have hr12 : rngD 0 12 = _ := rngD_ok (by omega) (by omega) (by omega) (by omega)
  have hr20 : rngD 0 20 = _ := rngD_ok (by omega) (by omega) (by omega) (by omega)
  have main : Wp (F__law_drawn n [.pot] P) (fun x => ∃ ws cs P', x = (.val (.tup [wsD ws, csD cs]), P') ∧ PotOk (k0 + 200) P' ∧ ws.length = 12 ∧ (∀ x ∈ ws, 0 ≤ x ∧ x ≤ 5) ∧ cs.length = 20 ∧ ∀ c ∈ cs, CpOk 12 c ∧ c.length ≤ 3) := by
    refine fn_wp rfl ?_
    simp only [a__law_drawn, ps__law_drawn, N__law_drawn]
    obtain ⟨ds, P2, e2, dl, dr, hP2⟩ := ev_lc_inv (Φ := Φ__law_drawn n) (bo := true) (fz := true) (elt := .cal "_law_take" (.cons false (.slot 0) (.cons false (.cal "_law_of" (.cons false (.slot 0) (.cons false (.lst (.cons false (.con (.int 2)) (.cons false (.con (.int 6)) .nil))) .nil))) .nil))) (t := .nm 4) (it := .rng1 (.con (.int 12))) (c := .no) (own := [4])
      (S := ⟨[.val .pot, .un, .un, .un, .un], P⟩) (S1 := ⟨[.val .pot, .un, .un, .un, .un], P⟩) (h := fun (i : Nat) => D.int (0 + i)) (xs := List.range (12 - 0 : Int).toNat) (fun i P => PotOk (k0 + 2 * i) P) (fun d => ∃ i : Int, d = .int i ∧ 0 ≤ i ∧ i ≤ 5)
      (evi_rng1_ok (j := 12) (by simp) hr12) (by simp) (by simp [notOwn]) hP (fun j a P ha hP => by
        have hj : j < 12 := by
          have := (List.getElem?_eq_some_iff.mp ha).1
          simpa using this
        obtain ⟨d5, P5, e5, dm, hP5⟩ := e_of (n := n) (ds := [.int 2, .int 6]) hP (by omega) (by simp) (by simp)
        have hu : ∃ u : Int, d5 = .int u ∧ 1 ≤ u ∧ u ≤ 6 := by
          simp at dm
          rcases dm with rfl | rfl
          · exact ⟨2, rfl, by omega, by omega⟩
          · exact ⟨6, rfl, by omega, by omega⟩
        obtain ⟨u, rfl, u1, u2⟩ := hu
        obtain ⟨d6, P6, e6, da, db, hP6⟩ := takeK (n := n) _ P5 u hP5 (by omega) (by omega) (by omega)
        exact ⟨.int d6, P6, by simp [lcGo_eq, wipeE, readS, e5, e6], ⟨d6, rfl, da, by omega⟩, hP6⟩)
    have ints_of : ∀ {ds : List D}, (∀ d ∈ ds, ∃ i : Int, d = .int i ∧ 0 ≤ i ∧ i ≤ 5) → ∃ ns : List Int, ds = ns.map .int ∧ ∀ x ∈ ns, 0 ≤ x ∧ x ≤ 5 := fun {ds} => by
      induction ds with
      | nil => exact fun _ => ⟨[], rfl, fun _ h => nomatch h⟩
      | cons d ds ih =>
        intro h
        obtain ⟨i, rfl, h1⟩ := h d List.mem_cons_self
        obtain ⟨ns, rfl, h2⟩ := ih fun e he => h e (List.mem_cons_of_mem _ he)
        refine ⟨i :: ns, rfl, fun x hx => ?_⟩
        rcases List.mem_cons.mp hx with rfl | hx
        · exact h1
        · exact h2 x hx
    obtain ⟨ws, rfl, hws⟩ := ints_of dr
    simp at dl hP2
    refine wp_to (S1 := ⟨[.val .pot, .val (wsD ws), .un, .un, .un], P2⟩) (by simp [e2, BI.fn, svOf, setS, wsD]) ?_
    refine wp_to (S1 := ⟨[.val .pot, .val (wsD ws), .own [], .un, .un], P2⟩) (by simp [svOf, setS]) ?_
    refine wp_st0 (fun S => ∃ (cs : List (List Nat)) (j3 : SV) (P' : Pt), (cs.length = 20 ∧ (∀ c ∈ cs, CpOk 12 c ∧ c.length ≤ 3) ∧ PotOk (k0 + 24 + 100) P') ∧ S = ⟨[.val .pot, .val (wsD ws), .own (cs.map tpD), j3, .un], P'⟩) ?_ ?_
    · refine wp_forr (h := fun (i : Nat) => D.int (0 + i)) (xs := List.range (20 - 0 : Int).toNat) (S1 := ⟨[.val .pot, .val (wsD ws), .own [], .un, .un], P2⟩) (evi_rng1_ok (j := 20) (by simp) hr20) (fun i S => ∃ (cs : List (List Nat)) (j3 : SV) (P' : Pt), (cs.length = i ∧ (∀ c ∈ cs, CpOk 12 c ∧ c.length ≤ 3) ∧ PotOk (k0 + 24 + 5 * i) P') ∧ S = ⟨[.val .pot, .val (wsD ws), .own (cs.map tpD), j3, .un], P'⟩) ⟨[], _, P2, ⟨rfl, fun _ h => (nomatch h), hP2⟩, rfl⟩ ?_ ?_
      · rintro i x S hx ⟨cs, j3, P3, ⟨hl, hcs, hP3⟩, rfl⟩
        have hi : i < 20 := by
          have := (List.getElem?_eq_some_iff.mp hx).1
          simpa using this
        obtain ⟨d5, P5, e5, dm, hP5⟩ := e_of (n := n) (ds := [.int 3, .int 12]) hP3 (by omega) (by simp) (by simp)
        have hu : ∃ u : Nat, d5 = .int u ∧ 3 ≤ u ∧ u ≤ 12 := by
          simp at dm
          rcases dm with rfl | rfl
          · exact ⟨3, rfl, by omega, by omega⟩
          · exact ⟨12, rfl, by omega, by omega⟩
        obtain ⟨u, rfl, u1, u2⟩ := hu
        obtain ⟨d6, P6, e6, da, db, hP6⟩ := takeK (n := n) _ P5 3 hP5 (by omega) (by omega) (by omega)
        obtain ⟨m, hm⟩ : ∃ m : Nat, 1 + d6 = m := ⟨(1 + d6).toNat, by omega⟩
        obtain ⟨xs, P7, e7, xl, ⟨r, xp⟩, hP7⟩ := e_some (n := n) (m := m) (ds := (List.range u).map nI) hP6 (by omega) (by simp; omega) (by simp; omega)
        obtain ⟨ns, rfl, nd, nlt, _⟩ := some_nat xp
        have lr := lrg_nat (k := u) (by omega)
        rw [List.length_map] at xl
        have es := sort_nI (l := ns) (by omega)
        have hcp := cp_of (T := 12) nd (by omega) fun x hx => by have := nlt x hx; omega
        have hcl : (leN ns).length ≤ 3 := by rw [(leN_perm ns).length_eq]; omega
        have lc : cs.length < LIM := Nat.lt_of_lt_of_le (show cs.length < 1000000 by omega) (by decide)
        simp only [bindT_nm, List.length_cons, List.length_nil]
        rw [if_pos (by simp), wp_some]
        refine wp_to (S1 := ⟨[.val .pot, .val (wsD ws), .own ((cs ++ [leN ns]).map tpD), .val (.int (0 + (x : Nat))), .un], P7⟩) ?_ ?_
        · have e7' : F__law_some n [.pot, .lst ((List.range u).map fun i => .int (i : Nat)), .int m] P6 = some (.val (.lst (ns.map nI)), P7) := e7
          simp [readS, ownAt, e5, lr, e6, hm, e7', BI.fn, es, lc, setS]
          rfl
        · refine wp_nil ⟨_, _, P7, ⟨by simp [hl], fun c hc => ?_, hP7.mono (by omega)⟩, rfl⟩
          rcases List.mem_append.mp hc with hc | hc
          · exact hcs c hc
          · simp at hc
            rw [hc]
            exact ⟨hcp, hcl⟩
      · rintro S ⟨cs, j3, P3, ⟨hl, hcs, hP3⟩, rfl⟩
        simp at hl hP3
        exact ⟨cs, j3, P3, ⟨hl, hcs, hP3⟩, rfl⟩
    · rintro S ⟨cs, j3, P3, ⟨hl, hcs, hP3⟩, rfl⟩
      simp [readS, BI.fn]
      exact ⟨ws, cs, P3, ⟨⟨rfl, rfl⟩, rfl⟩, hP3.mono (by omega), dl, hws, hl, hcs⟩
  obtain ⟨x, e, ws, cs, P', rfl, h⟩ := main
  exact ⟨ws, cs, P', e, h⟩
/-! ### the law's own room -/
def cat (cs : List (List Nat)) (lot : List Nat) : List Nat := lot.foldl (fun l a => l ++ cs.getD a []) []
theorem cat_take {cs : List (List Nat)} {lot : List Nat} {i a : Nat} (h : lot[i]? = some a) : cat cs (lot.take (i + 1)) = cat cs (lot.take i) ++ cs.getD a [] := by
  unfold cat
  rw [List.take_add_one, h]
  simp [List.foldl_append]
theorem cat_mem {cs : List (List Nat)} {lot : List Nat} (x : Nat) : x ∈ cat cs lot ↔ Has cs lot x := by
  have key : ∀ (lot l : List Nat), x ∈ lot.foldl (fun l a => l ++ cs.getD a []) l ↔ x ∈ l ∨ ∃ a ∈ lot, x ∈ cs.getD a [] := by
    intro lot
    induction lot with
    | nil => intro l; simp
    | cons a lot ih =>
      intro l
      rw [List.foldl_cons, ih, List.mem_append]
      simp only [List.mem_cons]
      constructor
      · rintro ((h | h) | ⟨b, hb, h⟩)
        · exact .inl h
        · exact .inr ⟨a, .inl rfl, h⟩
        · exact .inr ⟨b, .inr hb, h⟩
      · rintro (h | ⟨b, rfl | hb, h⟩)
        · exact .inl (.inl h)
        · exact .inl (.inr h)
        · exact .inr ⟨b, hb, h⟩
  unfold cat
  rw [key]
  simp only [List.not_mem_nil, false_or]
  exact getD_has
theorem cat_len {cs : List (List Nat)} (h : ∀ c ∈ cs, c.length ≤ 3) (lot : List Nat) : (cat cs lot).length ≤ 3 * lot.length := by
  have one : ∀ a, (cs.getD a []).length ≤ 3 := fun a => by
    rw [List.getD_eq_getElem?_getD]
    cases e : cs[a]? with
    | none => simp
    | some c => exact h c (List.mem_of_getElem? e)
  have key : ∀ (lot l : List Nat), (lot.foldl (fun l a => l ++ cs.getD a []) l).length ≤ l.length + 3 * lot.length := by
    intro lot
    induction lot with
    | nil => intro l; simp
    | cons a lot ih =>
      intro l
      rw [List.foldl_cons]
      have := ih (l ++ cs.getD a [])
      have := one a
      rw [List.length_append] at *
      simp only [List.length_cons]
      omega
  have := key lot []
  simp only [List.length_nil, Nat.zero_add] at this
  exact this
/-- the set of a list's numbers, sorted -/
def setN (l : List Nat) : List Nat := (rise (upI l)).map Int.toNat
theorem setN_map (l : List Nat) : (rise (upI l)).map D.int = (setN l).map nI := by
  unfold setN
  rw [List.map_map]
  refine List.map_congr_left fun x hx => ?_
  obtain ⟨k, _, rfl⟩ := List.mem_map.mp ((rise_mem x _).mp hx)
  rfl
theorem setN_mem (l : List Nat) (t : Nat) : t ∈ setN l ↔ t ∈ l := by
  unfold setN
  constructor
  · intro h
    obtain ⟨x, hx, rfl⟩ := List.mem_map.mp h
    obtain ⟨k, hk, rfl⟩ := List.mem_map.mp ((rise_mem x _).mp hx)
    simpa using hk
  · intro h
    exact List.mem_map.mpr ⟨(t : Int), (rise_mem _ _).mpr (List.mem_map.mpr ⟨t, h, rfl⟩), by simp⟩
theorem setN_nd (l : List Nat) : (setN l).Nodup := by
  unfold setN
  have up := rise_up (upI l)
  have mem : ∀ x ∈ rise (upI l), 0 ≤ x := fun x hx => by
    obtain ⟨k, _, rfl⟩ := List.mem_map.mp ((rise_mem x _).mp hx)
    omega
  generalize rise (upI l) = r at *
  induction r with
  | nil => simp
  | cons x r ih =>
    rw [List.pairwise_cons] at up
    rw [List.map_cons, List.nodup_cons]
    refine ⟨fun h => ?_, ih up.2 fun y hy => mem y (List.mem_cons_of_mem _ hy)⟩
    obtain ⟨y, hy, e⟩ := List.mem_map.mp h
    have := up.1 y hy
    have := mem y (List.mem_cons_of_mem _ hy)
    have := mem x List.mem_cons_self
    omega
theorem sset_N {l : List Nat} (h : l.length < 64) : ssetF [.lst (l.map nI)] = some (.lst ((setN l).map nI)) := by
  show (intsOf (l.map nI)).bind (fun ns => if ns.length < 64 then some (D.lst ((rise ns).map .int)) else none) = _
  rw [← up_nI, intsOf_map, Option.bind_some, if_pos (by simpa using h), setN_map]

theorem e_room (hn : 100000 ≤ n) {ws : List Int} {cs : List (List Nat)} {lot : List Nat} (hW : WOk ws cs) (h3 : ∀ c ∈ cs, c.length ≤ 3) (hw5 : ∀ x ∈ ws, x ≤ 5) (h1 : lot ≠ []) (h20 : lot.length ≤ 20) (hc : ∀ a ∈ lot, a < cs.length) : ∃ h, F__law_room n [wsD ws, csD cs, tpD lot] P = some (.val (.int h), P) ∧ Lv ws (uni cs lot) lot.length h := by
  have t2 := hW.t2
  have l1 : 1 ≤ lot.length := by
    cases lot with
    | nil => exact absurd rfl h1
    | cons _ _ => simp
  have llot : lenF [tpD lot] = some (.int lot.length) := by
    show some (D.int ((lot.map nI).length : Nat)) = _
    simp
  have cl : ∀ i, (cat cs (lot.take i)).length ≤ 60 := fun i => by
    have := cat_len h3 (lot.take i)
    rw [List.length_take] at this
    omega
  have main : Wp (F__law_room n [wsD ws, csD cs, tpD lot] P) (fun x => ∃ h, x = (.val (.int h), P) ∧ Lv ws (uni cs lot) lot.length h) := by
    refine fn_wp rfl ?_
    simp only [a__law_room, ps__law_room, N__law_room]
    refine wp_to (S1 := ⟨[.val (wsD ws), .val (csD cs), .val (tpD lot), .own ([].map nI), .un, .un, .un], P⟩) (by simp [svOf, setS]) ?_
    refine wp_st0 (fun S => ∃ j4, S = ⟨[.val (wsD ws), .val (csD cs), .val (tpD lot), .own ((cat cs lot).map nI), j4, .un, .un], P⟩) ?_ ?_
    · refine wp_forr (h := nI) (xs := lot) (S1 := ⟨[.val (wsD ws), .val (csD cs), .val (tpD lot), .own ([].map nI), .un, .un, .un], P⟩) (by simp [readS, tpD]) (fun i S => ∃ j4, S = ⟨[.val (wsD ws), .val (csD cs), .val (tpD lot), .own ((cat cs (lot.take i)).map nI), j4, .un, .un], P⟩) ⟨_, rfl⟩ ?_ ?_
      · rintro i a S hx ⟨j4, rfl⟩
        have ha := hc a (List.mem_of_getElem? hx)
        have hcs : cs[a]? = some cs[a] := List.getElem?_eq_getElem ha
        have hgd : cs.getD a [] = cs[a] := by rw [List.getD_eq_getElem?_getD, hcs]; rfl
        have ixc := ix_cs hcs
        have hcl := cl (i + 1)
        rw [cat_take hx, hgd] at *
        generalize cs[a] = c at *
        generalize cat cs (lot.take i) = l at *
        have ltc : listF [tpD c] = some (.lst (c.map nI)) := rfl
        rw [List.length_append] at hcl
        have hl : l.length + c.length ≤ LIM := Nat.le_trans (show _ ≤ 1000000 by omega) (by decide)
        simp only [bindT_nm, List.length_cons, List.length_nil]
        rw [if_pos (by simp), wp_some]
        refine wp_to (S1 := ⟨[.val (wsD ws), .val (csD cs), .val (tpD lot), .own ((l ++ c).map nI), .val (nI a), .un, .un], P⟩) (by simp [readS, ownAt, ixc, BI.fn, ltc, hl, setS]) (wp_nil ⟨_, rfl⟩)
      · rintro S ⟨j4, rfl⟩
        rw [List.take_length]
        exact ⟨_, rfl⟩
    · rintro S ⟨j4, rfl⟩
      have hcl := cl lot.length
      rw [List.take_length] at hcl
      have hset := sset_N (l := cat cs lot) (by omega)
      have nd := setN_nd (cat cs lot)
      have mem : ∀ t, t ∈ setN (cat cs lot) ↔ Has cs lot t := fun t => by rw [setN_mem, cat_mem]
      have hlt : ∀ t ∈ setN (cat cs lot), t < ws.length := fun t ht => has_lt hW.c ((mem t).mp ht)
      have hV12 := keys_len nd hlt
      have hpm : (uni cs lot).Perm (setN (cat cs lot)) := nodup_perm (uni_nd _ _) nd fun t => by rw [uni_mem, mem]
      have hne : ∃ u, u ∈ setN (cat cs lot) := by
        obtain ⟨a, r, rfl⟩ := List.exists_cons_of_ne_nil h1
        have ha := hc a List.mem_cons_self
        have hcs : cs[a]? = some cs[a] := List.getElem?_eq_getElem ha
        obtain ⟨t, c, ec⟩ := List.exists_cons_of_ne_nil (hW.c _ (List.mem_of_getElem? hcs)).nn
        exact ⟨t, (mem t).mpr ⟨a, List.mem_cons_self, _, hcs, by rw [ec]; exact List.mem_cons_self⟩⟩
      obtain ⟨u, hu⟩ := hne
      have hw := hW.w _ (get_mem (hlt u hu))
      have hw5' := hw5 _ (get_mem (hlt u hu))
      have cond : ∀ h, ev (Φ__law_room n) (.cmp .lt (.bi .sum (.cons false (.lc (.bi .max (.cons false (.con (.int 0)) (.cons false (.bin .sub (.slot 5) (.idx (.slot 0) (.slot 6))) .nil))) (.nm 6) (.seq (.sset (.slot 3))) .no [6]) .nil)) (.bi .len (.cons false (.slot 2) .nil))) true true ⟨[.val (wsD ws), .val (csD cs), .val (tpD lot), .own ((cat cs lot).map nI), j4, .val (.int h), .un], P⟩ = some (.val (.bl (decide (Wn.fill ws (setN (cat cs lot)) h < lot.length))), ⟨[.val (wsD ws), .val (csD cs), .val (tpD lot), .own ((cat cs lot).map nI), j4, .val (.int h), .un], P⟩) := fun h => by
        simp [readS, BI.fn, llot]
        rw [ev_lc_s (h := nI) (xs := setN (cat cs lot)) (fun t => .int (max 0 (h - ws.getD t 0))) (by simp [readS, hset]) (by omega) (by simp [notOwn]) (fun x hx P => by
          have ixw := ix_atT (l := ws) (t := x) (hlt x hx)
          have ixw : idxD (wsD ws) (.int (x : Nat)) = some (.int (ws.getD x 0)) := ixw
          simp [lcGo_eq, wipeE, readS, ixw, BI.fn])]
        simp [Wn.fill, llot]
      refine wp_to (S1 := ⟨[.val (wsD ws), .val (csD cs), .val (tpD lot), .own ((cat cs lot).map nI), j4, .val (.int 0), .un], P⟩) (by simp [svOf, setS]) ?_
      have hf0 : Wn.fill ws (setN (cat cs lot)) 0 = 0 := fill_none fun t ht => (hW.w _ (get_mem (hlt t ht))).1
      generalize setN (cat cs lot) = V at *
      refine wp_st0 (fun S => ∃ h, Lv ws V lot.length h ∧ S = ⟨[.val (wsD ws), .val (csD cs), .val (tpD lot), .own ((cat cs lot).map nI), j4, .val (.int h), .un], P⟩) (wp_while (fun μ S => ∃ h, 0 ≤ h ∧ (h = 0 ∨ Wn.fill ws V (h - 1) < lot.length) ∧ (26 - h).toNat = μ ∧ S = ⟨[.val (wsD ws), .val (csD cs), .val (tpD lot), .own ((cat cs lot).map nI), j4, .val (.int h), .un], P⟩) 26 (by omega) ⟨0, Int.le_refl _, .inl rfl, rfl, rfl⟩ ?_) ?_
      · rintro μ S ⟨h, hh, hor, hμ, rfl⟩
        refine ⟨_, _, cond h, ?_⟩
        by_cases q : Wn.fill ws V h < lot.length
        · have q2 := fill_one (ws := ws) hu h
          refine .inr ⟨by simp [q], ?_⟩
          refine wp_to (S1 := ⟨[.val (wsD ws), .val (csD cs), .val (tpD lot), .own ((cat cs lot).map nI), j4, .val (.int (h + 1)), .un], P⟩) (by simp [readS, svOf, setS]) ?_
          exact wp_nil ⟨(26 - (h + 1)).toNat, by omega, h + 1, by omega, .inr (by simpa using q), rfl, rfl⟩
        · refine .inl ⟨by simp [q], h, ⟨by omega, ?_⟩, rfl⟩
          rcases hor with rfl | q2
          · omega
          · exact q2
      · rintro S ⟨h, hL, rfl⟩
        simp [readS]
        unfold Lv at *
        rw [fill_perm hpm, fill_perm hpm]
        exact hL
  obtain ⟨x, e, h, rfl, hL⟩ := main
  exact ⟨h, e, hL⟩
end K62

set_option Elab.async false
set_option linter.all false
set_option maxRecDepth 100000
set_option maxHeartbeats 4000000
/-! the law itself -/
namespace K62
open PySem PySem.Spec PyProof.Rows L2 Ev K71 Wn
variable {n : Nat} {P : Pt}
@[simp] theorem isnot_tt : cmpB .isnot (.bl true) (.bl true) = some false := (rfl)
/-- items that change the pot, each as its own item wants -/
theorem lcA_rel {α : Type} {f : α → Pt → Option (Option D × Pt)} (R : α → D → Prop) : ∀ {xs : List α} {P : Pt} (I : Nat → Pt → Prop), I 0 P → (∀ j a P, xs[j]? = some a → I j P → ∃ d P', f a P = some (some d, P') ∧ R a d ∧ I (j + 1) P') →
    ∃ ds P', lcA f xs P = some (ds, P') ∧ ds.length = xs.length ∧ (∀ (i : Nat) a d, xs[i]? = some a → ds[i]? = some d → R a d) ∧ I xs.length P'
  | [], P, I, h, _ => ⟨[], P, rfl, rfl, fun i a d e => by simp at e, h⟩
  | x :: xs, P, I, h, s => by
    obtain ⟨d, P1, e1, r, h1⟩ := s 0 x P rfl h
    obtain ⟨ds, P2, e2, l, rs, h2⟩ := lcA_rel R (xs := xs) (fun i => I (i + 1)) h1 fun j a P ha hi => s (j + 1) a P ha hi
    refine ⟨d :: ds, P2, ?_, by simp [l], fun i a e h3 h4 => ?_, h2⟩
    · rw [lcA, e1, Option.bind_some]
      dsimp only
      rw [e2]
      rfl
    · cases i with
      | zero =>
        cases h3
        cases h4
        exact r
      | succ i => exact rs i a e h3 h4
theorem ev_lc_rel {Φ : Str → Option Fn} {bo fz : Bool} {S S1 : St'} {α : Type} {elt : E} {t : T} {it : Itr} {c : Eo} {own : List Nat} {h : α → D} {xs : List α} (I : Nat → Pt → Prop) (R : α → D → Prop) (h1 : evi Φ it true fz S = some (xs.map h, S1)) (h2 : xs.length ≤ 1000000) (h3 : own.all (fun i => notOwn S1.env i) = true) (h0 : I 0 S1.pot)
    (h4 : ∀ j a P, xs[j]? = some a → I j P → ∃ d P', lcGo t (wipeE S1.env own) (evc Φ c) (ev Φ elt false false) h a P = some (some d, P') ∧ R a d ∧ I (j + 1) P') :
    ∃ ds P', ev Φ (.lc elt t it c own) bo fz S = some (.val (.lst ds), ⟨S1.env, P'⟩) ∧ ds.length = xs.length ∧ (∀ (i : Nat) a d, xs[i]? = some a → ds[i]? = some d → R a d) ∧ I xs.length P' := by
  obtain ⟨ds, P', e, l, r, i⟩ := lcA_rel R I h0 h4
  refine ⟨ds, P', ?_, l, r, i⟩
  rw [ev_lcA h1 h2 h3, e]
  rfl
theorem ix_last {l : List Int} (h : l ≠ []) : idxD (.lst (l.map .int)) (.int (-1)) = some (.int (l.getD (l.length - 1) 0)) := by
  have hl : 1 ≤ l.length := by
    cases l with
    | nil => exact absurd rfl h
    | cons _ _ => simp
  have e : ixN (l.map D.int).length (-1) = some (l.length - 1) := by
    unfold ixN
    rw [List.length_map]
    have h1 : ¬ (0 : Int) ≤ -1 := by omega
    have h2 : -(l.length : Int) ≤ -1 := by omega
    have h3 : ((-1 : Int) + l.length).toNat = l.length - 1 := by omega
    have h4 : ((l.length : Int) + -1).toNat = l.length - 1 := by omega
    have h5 : ((l.length : Int) - 1).toNat = l.length - 1 := by omega
    simp [h1, h2, h3, h4, h5]
    try omega
  show atI (l.map D.int) (-1) = _
  unfold atI
  rw [e, Option.bind_some, List.getElem?_map, List.getD_eq_getElem?_getD, List.getElem?_eq_getElem (show l.length - 1 < l.length by omega)]
  rfl
theorem last_max {l : List Int} (h : l ≠ []) : (leI l).getD ((leI l).length - 1) 0 = maxL l := by
  have p := leI_perm l
  have up := leI_up l
  have hl : (leI l).length = l.length := p.length_eq
  have h1 : 1 ≤ l.length := by
    cases l with
    | nil => exact absurd rfl h
    | cons _ _ => simp
  have hlt : (leI l).length - 1 < (leI l).length := by omega
  rw [List.getD_eq_getElem?_getD, List.getElem?_eq_getElem hlt]
  have m1 := maxL_ge (p.mem_iff.mp (List.getElem_mem hlt))
  obtain ⟨i, hi⟩ := List.mem_iff_getElem?.mp (p.mem_iff.mpr (maxL_in h))
  obtain ⟨hil, e⟩ := List.getElem?_eq_some_iff.mp hi
  have m2 : maxL l ≤ (leI l)[(leI l).length - 1] := by
    by_cases q : i = (leI l).length - 1
    · subst q
      omega
    · have := List.pairwise_iff_getElem.mp up i ((leI l).length - 1) hil hlt (by omega)
      omega
  show (leI l)[(leI l).length - 1] = _
  omega
theorem eq_lI (l m : List Int) : cmpB .eq (.lst (l.map .int)) (.lst (m.map .int)) = some (decide (l = m)) := by
  rw [cmp_eqD, eqD_pl (pl_lst (plL_ints _ _)) (pl_lst (plL_ints _ _))]
  simp [D.py, PyData.eqv, pyL_ints, eqv_ints]
/-- wear by other names, name by name -/
theorem names_set {ns : List Nat} {ws vs : List Int} {i t : Nat} (nd : ns.Nodup) (hl : vs.length = 12) (hn : ∀ x ∈ ns, x < 12) (ht : ns[i]? = some t) (h : ∀ j, j < i → vs.getD (ns.getD j 0) 0 = ws.getD j 0) :
    ∀ j, j < i + 1 → (vs.set t (ws.getD i 0)).getD (ns.getD j 0) 0 = ws.getD j 0 := by
  intro j hj
  have htl := hn t (List.mem_of_getElem? ht)
  by_cases e : j = i
  · subst e
    have e2 : ns.getD j 0 = t := by rw [List.getD_eq_getElem?_getD, ht]; rfl
    rw [e2, List.getD_eq_getElem?_getD, List.getElem?_set_self (by omega)]
    rfl
  · have hji : j < i := by omega
    have hil := (List.getElem?_eq_some_iff.mp ht).1
    have hne : t ≠ ns.getD j 0 := fun z => by
      have e3 : ns[j]? = some (ns.getD j 0) := by
        rw [List.getD_eq_getElem?_getD, List.getElem?_eq_getElem (show j < ns.length by omega)]
        rfl
      rw [← z] at e3
      have := (List.getElem?_inj (show j < ns.length by omega) nd).mp (e3.trans ht.symm)
      exact e this
    rw [List.getD_eq_getElem?_getD, List.getElem?_set_ne hne, ← List.getD_eq_getElem?_getD]
    exact h j hji
theorem zip_pw {l : List Nat} (h : ∀ p ∈ l.zip (l.drop 1), p.1 < p.2) : l.Pairwise (· < ·) := by
  induction l with
  | nil => exact List.Pairwise.nil
  | cons x l ih =>
    cases l with
    | nil => simp
    | cons y r =>
      have e : (x :: y :: r).zip ((x :: y :: r).drop 1) = (x, y) :: (y :: r).zip ((y :: r).drop 1) := rfl
      rw [e] at h
      have h1 := h (x, y) List.mem_cons_self
      have h2 := ih fun p hp => h p (List.mem_cons_of_mem _ hp)
      refine List.pairwise_cons.mpr ⟨fun z hz => ?_, h2⟩
      rcases List.mem_cons.mp hz with rfl | hz
      · exact h1
      · have := (List.pairwise_cons.mp h2).1 z hz
        simp only at h1
        omega
theorem nodup_map {f : Nat → Nat} {l : List Nat} (nd : l.Nodup) (h : ∀ s ∈ l, ∀ t ∈ l, f s = f t → s = t) : (l.map f).Nodup := by
  induction l with
  | nil => simp
  | cons x l ih =>
    rw [List.nodup_cons] at nd
    rw [List.map_cons, List.nodup_cons]
    refine ⟨fun z => ?_, ih nd.2 fun s hs t ht => h s (List.mem_cons_of_mem _ hs) t (List.mem_cons_of_mem _ ht)⟩
    obtain ⟨y, hy, e⟩ := List.mem_map.mp z
    have := h y (List.mem_cons_of_mem _ hy) x List.mem_cons_self e
    exact nd.1 (this ▸ hy)
/-- a choice and one made more even differ somewhere -/
theorem differ {ws : List Int} {cs : List (List Nat)} {ch new : List Nat} (hV : Val ws.length cs ch) (h : Better ws cs ch new) : 1 ≤ ((ch.zip new).filter fun p => !decide (p.1 = p.2)).length := by
  refine Nat.one_le_iff_ne_zero.mpr fun z => ?_
  have z := List.eq_nil_of_length_eq_zero z
  have e : ch = new := by
    refine List.ext_getElem (by rw [hV.len, h.1.len]) fun i h1 h2 => ?_
    have := List.filter_eq_nil_iff.mp z (ch[i], new[i]) (List.mem_iff_getElem?.mpr ⟨i, by rw [List.getElem?_zip_eq_some]; exact ⟨List.getElem?_eq_getElem h1, List.getElem?_eq_getElem h2⟩⟩)
    simpa using this
  subst e
  have := h.G hV
  omega

theorem e_right (hn : 100000 ≤ n) {k0 : Nat} (hP : PotOk k0 P) (hk : k0 ≤ 800000) : Wp (F__law_right n [.pot] P) (fun x => x.1 = .val (.bl true) ∧ PotOk (k0 + 1000) x.2) := by
  obtain ⟨ws, cs, P1, ed, hP1, hw12, hw5, hc20, hcs⟩ := e_drawn (n := n) hP (by omega)
  have hW : WOk ws cs := ⟨by omega, by omega, fun x hx => by have := hw5 x hx; omega, by omega, fun c hc => by rw [hw12]; exact (hcs c hc).1⟩
  refine fn_wp rfl ?_
  simp only [a__law_right, ps__law_right, N__law_right]
  refine wp_to (S1 := ⟨[.val .pot, .un, .un, .un, .un, .un, .un, .un, .un, .val (wsD ws), .val (csD cs), .un, .un, .un, .un, .un, .un, .un, .un, .un, .un], P1⟩) (by simp [readS, ed]) ?_
  obtain ⟨ch, lot, elw, hV, hE, hL⟩ := e_least_wear (n := n) (P := P1) hn hW
  have hTop := even_top hW hV hE
  have ell := e_law_loads (n := n) (P := P1) hV.tl
  have mx := max_ints (ld_ne hW.ne ch)
  have mw : bestF gtD [wsD ws] = some (.int (maxL ws)) := max_intsT hW.ne
  have esl := e_shows_least (n := n) (P := P1) hn hW hV hL
  have tb := top_le hW hV
  have eqn := eq_nil lot
  have nen := ne_nil lot
  generalize maxL (ld ws ch) = top at *
  refine wp_to (S1 := ⟨[.val .pot, .un, .un, .un, .un, .un, .un, .un, .un, .val (wsD ws), .val (csD cs), .val (.int top), .val (tpD ch), .val (tpD lot), .un, .un, .un, .un, .un, .un, .un], P1⟩) (by simp [readS, elw]) ?_
  refine wp_iff (d := .bl false) (S1 := ⟨[.val .pot, .un, .un, .un, .un, .un, .un, .un, .un, .val (wsD ws), .val (csD cs), .val (.int top), .val (tpD ch), .val (tpD lot), .un, .un, .un, .un, .un, .un, .un], P1⟩) ?_ rfl ?_
  · simp [readS, BI.fn, ell, mx]
    rw [ev_lc_s (h := fun (p : Nat × List Nat) => D.tup [nI p.1, tpD p.2]) (xs := ch.zip cs) (fun _ => .bl true) (by simp [readS, tpD, csD]; exact zipL_map _ _) (by simp; omega) (by simp [notOwn]) (fun p hp P => by
      obtain ⟨i, hi⟩ := List.mem_iff_getElem?.mp hp
      rw [List.getElem?_zip_eq_some] at hi
      have hin := in_tp p.1 p.2
      simp [hV.mem i p.1 p.2 hi.1 hi.2] at hin
      simp [lcGo_eq, wipeE, readS, hin])]
    simp
  refine wp_nil ?_
  refine wp_iff (d := .bl false) (S1 := ⟨[.val .pot, .un, .un, .un, .un, .un, .un, .un, .un, .val (wsD ws), .val (csD cs), .val (.int top), .val (tpD ch), .val (tpD lot), .un, .un, .un, .un, .un, .un, .un], P1⟩) ?_ rfl ?_
  · rcases hL with ⟨rfl, h⟩ | ⟨h0, h1, h2, h3, h4⟩
    · simp only [List.isEmpty_nil, Bool.not_true] at eqn nen
      simp [readS, eqn, nen, BI.fn, mw, h]
    · have e0 : lot.isEmpty = false := by
        cases lot with
        | nil => exact absurd rfl h0
        | cons _ _ => rfl
      obtain ⟨h, er, hLv⟩ := e_room (n := n) (P := P1) hn hW (fun c hc => (hcs c hc).2) (fun x hx => (hw5 x hx).2) h0 (by omega) h2
      have := lv_one hLv h4
      subst this
      rw [e0] at eqn nen
      simp only [Bool.not_false] at nen
      simp [readS, eqn, nen, er]
  refine wp_nil ?_
  refine wp_iff (d := .bl false) (S1 := ⟨[.val .pot, .un, .un, .un, .un, .un, .un, .un, .un, .val (wsD ws), .val (csD cs), .val (.int top), .val (tpD ch), .val (tpD lot), .un, .un, .un, .un, .un, .un, .un], P1⟩) ?_ rfl ?_
  · rcases hL with ⟨rfl, h⟩ | ⟨h0, h1, h2, h3, h4⟩
    · simp only [List.isEmpty_nil, Bool.not_true] at eqn nen
      simp [readS, esl, nen]
    · have e0 : lot.isEmpty = false := by
        cases lot with
        | nil => exact absurd rfl h0
        | cons _ _ => rfl
      obtain ⟨h, er, hLv⟩ := e_needs (n := n) (P := P1) hn hW h0 h1 h2 h3
      have := lv_one hLv h4
      subst this
      rw [e0] at nen
      simp only [Bool.not_false] at nen
      simp [readS, esl, nen, er]
  refine wp_nil ?_
  -- by other names
  have lr12 := lrg_nat (k := 12) (by omega)
  obtain ⟨xs, P2, e2, xl, ⟨r, xp⟩, hP2⟩ := e_some (n := n) (m := 12) (ds := (List.range 12).map nI) hP1 (by omega) (by simp) (by simp)
  obtain ⟨ns, rfl, nd, nlt, nperm⟩ := some_nat xp
  have nperm := nperm xl
  rw [List.length_map] at xl
  have e2' : F__law_some n [.pot, .lst ((List.range 12).map fun i => .int (i : Nat)), .int 12] P1 = some (.val (.lst (ns.map nI)), P2) := e2
  refine wp_to (S1 := ⟨[.val .pot, .val (.lst (ns.map nI)), .un, .un, .un, .un, .un, .un, .un, .val (wsD ws), .val (csD cs), .val (.int top), .val (tpD ch), .val (tpD lot), .un, .un, .un, .un, .un, .un, .un], P2⟩) (by
    have lr12 : lrgD (.int 12) = some (.lst ((List.range 12).map fun i => .int (i : Nat))) := lr12
    simp [readS, lr12, e2', svOf, setS]) ?_
  have ixn : ∀ t, t < 12 → idxD (.lst (ns.map nI)) (nI t) = some (nI (ns.getD t 0)) := fun t ht => by
    refine (idx_nat (k := t) ?_).2.1
    rw [List.getElem?_map, List.getD_eq_getElem?_getD, List.getElem?_eq_getElem (show t < ns.length by omega)]
    rfl
  have clt : ∀ c ∈ cs, ∀ x ∈ c, x < 12 := fun c hc x hx => (hcs c hc).1.lt x hx
  generalize hds : cs.map (fun c => leN (c.map fun t => ns.getD t 0)) = ds
  refine wp_to (S1 := ⟨[.val .pot, .val (.lst (ns.map nI)), .val (csD ds), .un, .un, .un, .un, .un, .un, .val (wsD ws), .val (csD cs), .val (.int top), .val (tpD ch), .val (tpD lot), .un, .un, .un, .un, .un, .un, .un], P2⟩) ?_ ?_
  · simp only [exS_set, ev_bi, evs_cons]
    rw [ev_lc_s (h := tpD) (xs := cs) (fun c => tpD (leN (c.map fun t => ns.getD t 0))) (by simp [readS, csD]) (by omega) (by simp [notOwn]) (fun c hc P => by
      have hcl : c.length ≤ 12 := (hcs c hc).1.le
      have es := sort_nI (l := c.map fun t => ns.getD t 0) (by simp; omega)
      simp [lcGo_eq, wipeE, readS]
      rw [ev_lc_s (h := nI) (xs := c) (fun t => nI (ns.getD t 0)) (by simp [readS, tpD]) (by omega) (by simp [notOwn]) (fun t ht P => by
        have ix := ixn t (clt c hc t ht)
        simp [lcGo_eq, wipeE, readS, ix])]
      rw [List.map_map] at es
      have es : sortF [.lst (c.map fun t => nI (ns.getD t 0))] = _ := es
      simp at es
      simp [BI.fn, es]
      rfl)]
    have e9 : D.tup (cs.map fun c => tpD (leN (c.map fun t => ns.getD t 0))) = csD ds := by rw [← hds]; simp [csD]
    simp [BI.fn, svOf, setS]
    simpa using e9
  have r0 : repF 12 [D.int 0] = (List.replicate 12 (0 : Int)).map .int := by
    have := repF_one (D.int 0) 12
    rw [List.map_replicate]
    exact this
  have rl : binD .mul (.lst [D.int 0]) (.int 12) = some (.lst (repF 12 [D.int 0])) := rep_lst (k := 12) (by omega) (by simp)
  refine wp_to (S1 := ⟨[.val .pot, .val (.lst (ns.map nI)), .val (csD ds), .own ((List.replicate 12 (0 : Int)).map .int), .un, .un, .un, .un, .un, .val (wsD ws), .val (csD cs), .val (.int top), .val (tpD ch), .val (tpD lot), .un, .un, .un, .un, .un, .un, .un], P2⟩) (by simp [rl, r0, svOf, setS]) ?_
  refine wp_st0 (fun S => ∃ (vs : List Int) (j14 j15 : SV), (vs.length = 12 ∧ (∀ x ∈ vs, 0 ≤ x ∧ x ≤ 5) ∧ ∀ t, t < 12 → vs.getD (ns.getD t 0) 0 = ws.getD t 0) ∧ S = ⟨[.val .pot, .val (.lst (ns.map nI)), .val (csD ds), .own (vs.map D.int), .un, .un, .un, .un, .un, .val (wsD ws), .val (csD cs), .val (.int top), .val (tpD ch), .val (tpD lot), j14, j15, .un, .un, .un, .un, .un], P2⟩) ?_ ?_
  · refine wp_forr (h := fun (q : Nat × Nat) => D.tup [.int (q.2 : Nat), nI q.1]) (xs := ns.zipIdx) (S1 := ⟨[.val .pot, .val (.lst (ns.map nI)), .val (csD ds), .own ((List.replicate 12 (0 : Int)).map .int), .un, .un, .un, .un, .un, .val (wsD ws), .val (csD cs), .val (.int top), .val (tpD ch), .val (tpD lot), .un, .un, .un, .un, .un, .un, .un], P2⟩) (by simp [readS, enumL_map0]) (fun i S => ∃ (vs : List Int) (j14 j15 : SV), (vs.length = 12 ∧ (∀ x ∈ vs, 0 ≤ x ∧ x ≤ 5) ∧ ∀ t, t < i → vs.getD (ns.getD t 0) 0 = ws.getD t 0) ∧ S = ⟨[.val .pot, .val (.lst (ns.map nI)), .val (csD ds), .own (vs.map D.int), .un, .un, .un, .un, .un, .val (wsD ws), .val (csD cs), .val (.int top), .val (tpD ch), .val (tpD lot), j14, j15, .un, .un, .un, .un, .un], P2⟩) ⟨_, _, _, ⟨by simp, fun x hx => by rw [List.eq_of_mem_replicate hx]; omega, fun t h => by omega⟩, rfl⟩ ?_ ?_
    · rintro i ⟨name, i'⟩ S hx ⟨vs, j14, j15, ⟨hvl, hv5, hvs⟩, rfl⟩
      have hname : ns[i]? = some name ∧ i' = i := by
        rw [List.getElem?_zipIdx] at hx
        obtain ⟨y, hy, e⟩ := Option.map_eq_some_iff.mp hx
        cases e
        exact ⟨hy, by omega⟩
      obtain ⟨hname, rfl⟩ := hname
      have hi : i' < 12 := by
        have := (List.getElem?_eq_some_iff.mp hname).1
        omega
      have hnl := nlt name (List.mem_of_getElem? hname)
      have ixw : idxD (wsD ws) (nI i') = some (.int (ws.getD i' 0)) := ix_atT (l := ws) (t := i') (by omega)
      have e2 := ixN_at (k := vs.length) (t := name) (by omega)
      simp only [bindT_tup, bindTs_cons, bindTs_nil, bindT_nm, List.length_cons, List.length_nil, List.length_set]
      rw [if_pos (by simp), Option.bind_some, if_pos (by simp), Option.bind_some, wp_some]
      refine wp_to (S1 := ⟨[.val .pot, .val (.lst (ns.map nI)), .val (csD ds), .own ((vs.set name (ws.getD i' 0)).map D.int), .un, .un, .un, .un, .un, .val (wsD ws), .val (csD cs), .val (.int top), .val (tpD ch), .val (tpD lot), .val (nI i'), .val (nI name), .un, .un, .un, .un, .un], P2⟩) (by simp at ixw; simp [readS, ownAt, ixw, intOf, e2, setS, List.map_set]) ?_
      refine wp_nil ⟨_, _, _, ⟨by rw [List.length_set]; exact hvl, fun x hx => ?_, names_set nd hvl nlt hname hvs⟩, rfl⟩
      rcases List.mem_or_eq_of_mem_set hx with hx | rfl
      · exact hv5 x hx
      · exact hw5 _ (get_mem (by omega))
    · rintro S ⟨vs, j14, j15, ⟨hvl, hv5, hvs⟩, rfl⟩
      exact ⟨vs, _, _, ⟨hvl, hv5, fun t ht => hvs t (by simp; omega)⟩, rfl⟩
  rintro S ⟨vs, j14, j15, ⟨hvl, hv5, hvs⟩, rfl⟩
  have fmem : ∀ t, t < 12 → ns[t]? = some (ns.getD t 0) := fun t ht => by
    rw [List.getD_eq_getElem?_getD, List.getElem?_eq_getElem (show t < ns.length by omega)]
    rfl
  have flt : ∀ t, t < 12 → ns.getD t 0 < 12 := fun t ht => nlt _ (List.mem_of_getElem? (fmem t ht))
  have finj : ∀ s t, s < 12 → t < 12 → ns.getD s 0 = ns.getD t 0 → s = t := fun s t hs ht e => by
    have := fmem s hs
    rw [e] at this
    exact (List.getElem?_inj (show s < ns.length by omega) nd).mp (this.trans (fmem t ht).symm)
  have hin : ∀ s, s < 12 → s ∈ ns := fun s hs => nperm.mem_iff.mpr (List.mem_range.mpr hs)
  have glt : ∀ s, s < 12 → ns.idxOf s < 12 := fun s hs => by
    have := List.idxOf_lt_length_of_mem (hin s hs)
    omega
  have fg : ∀ s, s < 12 → ns.getD (ns.idxOf s) 0 = s := fun s hs => by
    have h := List.idxOf_lt_length_of_mem (hin s hs)
    rw [List.getD_eq_getElem?_getD, List.getElem?_eq_getElem h, List.getElem_idxOf h]
    rfl
  have gf : ∀ t, t < 12 → ns.idxOf (ns.getD t 0) = t := fun t ht => finj _ _ (glt _ (flt t ht)) ht (fg _ (flt t ht))
  have cOkD : ∀ d ∈ ds, CpOk 12 d := fun d hd => by
    rw [← hds] at hd
    obtain ⟨c, hc, rfl⟩ := List.mem_map.mp hd
    have hc1 := (hcs c hc).1
    have ndc : c.Nodup := (zip_pw hc1.up).imp fun h => by omega
    refine cp_of (nodup_map ndc fun s hs t ht e => finj s t (clt c hc s hs) (clt c hc t ht) e) (by rw [List.length_map]; exact hc1.ne) fun x hx => ?_
    obtain ⟨t, ht, rfl⟩ := List.mem_map.mp hx
    exact flt t (clt c hc t ht)
  have hW2 : WOk vs ds := ⟨by omega, by omega, fun x hx => by have := hv5 x hx; omega, by rw [← hds, List.length_map]; omega, fun d hd => by rw [hvl]; exact cOkD d hd⟩
  obtain ⟨ch2, lot2, elw2, hV2, hE2, _⟩ := e_least_wear (n := n) (P := P2) hn hW2
  have hTop2 := even_top hW2 hV2 hE2
  have hNm : Least vs ds top := by
    refine least_names (f := fun t => ns.getD t 0) (g := fun s => ns.idxOf s) (by omega) (fun t ht => by rw [hw12] at *; exact flt t ht) (fun t ht => by rw [hw12] at *; exact glt t ht) (fun t ht => fg t (by omega)) (fun t ht => gf t (by omega)) (fun t ht => hvs t (by omega)) (by rw [← hds, List.length_map]) (fun d hd x hx => by rw [hw12]; exact (cOkD d hd).lt x hx) (fun i c d h1 h2 t ht => ?_) hTop
    rw [← hds, List.getElem?_map, h1] at h2
    cases h2
    rw [(leN_perm _).mem_iff, List.mem_map]
    have hc := List.mem_of_getElem? h1
    constructor
    · exact fun h => ⟨t, h, rfl⟩
    · rintro ⟨s, hs, e⟩
      exact finj s t (clt c hc s hs) (by omega) e ▸ hs
  have et2 := hTop2.one hNm
  have i0 : ∀ (x y z : D), idxD (.tup [x, y, z]) (.int 0) = some x := fun _ _ _ => idx_0
  refine wp_iff (d := .bl false) (S1 := ⟨[.val .pot, .val (.lst (ns.map nI)), .val (csD ds), .own (vs.map D.int), .un, .un, .un, .un, .un, .val (wsD ws), .val (csD cs), .val (.int top), .val (tpD ch), .val (tpD lot), j14, j15, .un, .un, .un, .un, .un], P2⟩) (by
    have e : F_least_wear n [.tup (vs.map D.int), csD ds] P2 = _ := elw2
    simp [readS, BI.fn, e, i0, et2]) rfl ?_
  refine wp_nil ?_
  -- an ask fewer
  obtain ⟨c0, cs0, rfl⟩ : ∃ c0 cs0, cs = c0 :: cs0 := by
    cases cs with
    | nil => simp at hc20
    | cons c0 cs0 => exact ⟨c0, cs0, rfl⟩
  have hW3 : WOk ws cs0 := ⟨hW.t1, hW.t2, hW.w, by have := hW.m; simp at this; omega, fun c hc => hW.c c (List.mem_cons_of_mem _ hc)⟩
  obtain ⟨ch3, lot3, elw3, hV3, hE3, _⟩ := e_least_wear (n := n) (P := P2) hn hW3
  have hTop3 := even_top hW3 hV3 hE3
  have hfew := least_tail (c := c0) (by
    obtain ⟨t, c, ec⟩ := List.exists_cons_of_ne_nil (hW.c c0 List.mem_cons_self).nn
    exact ⟨t, by rw [ec]; exact List.mem_cons_self, trivial⟩) hTop hTop3
  generalize maxL (ld ws ch3) = few at *
  have slc1 : slcD (csD (c0 :: cs0)) (some 1) none = some (csD cs0) := by
    show some (D.tup (cutD ((c0 :: cs0).map tpD) (some ((1 : Nat) : Int)) none)) = _
    rw [cut_drop]
    rfl
  refine wp_to (S1 := ⟨[.val .pot, .val (.lst (ns.map nI)), .val (csD ds), .own (vs.map D.int), .val (.int few), .un, .un, .un, .un, .val (wsD ws), .val (csD (c0 :: cs0)), .val (.int top), .val (tpD ch), .val (tpD lot), j14, j15, .un, .un, .un, .un, .un], P2⟩) (by simp [readS, partOf, intOf, slc1, elw3, i0, svOf, setS]) ?_
  refine wp_iff (d := .bl false) (S1 := ⟨[.val .pot, .val (.lst (ns.map nI)), .val (csD ds), .own (vs.map D.int), .val (.int few), .un, .un, .un, .un, .val (wsD ws), .val (csD (c0 :: cs0)), .val (.int top), .val (tpD ch), .val (tpD lot), j14, j15, .un, .un, .un, .un, .un], P2⟩) (by simp [readS, hfew.1, hfew.2]) rfl ?_
  refine wp_nil ?_
  -- all worn more
  obtain ⟨u, P3, e3, u0, u1, hP3⟩ := takeK (n := n) _ P2 1000 hP2 (by omega) (by omega) (by omega)
  refine wp_to (S1 := ⟨[.val .pot, .val (.lst (ns.map nI)), .val (csD ds), .own (vs.map D.int), .val (.int few), .val (.int u), .un, .un, .un, .val (wsD ws), .val (csD (c0 :: cs0)), .val (.int top), .val (tpD ch), .val (tpD lot), j14, j15, .un, .un, .un, .un, .un], P3⟩) (by simp [readS, e3, svOf, setS]) ?_
  have hW4 : WOk (ws.map fun x => x + u) (c0 :: cs0) := ⟨by simp; omega, by simp; omega, fun x hx => by
    obtain ⟨y, hy, rfl⟩ := List.mem_map.mp hx
    have := hw5 y hy
    omega, by omega, fun c hc => by rw [List.length_map]; exact hW.c c hc⟩
  obtain ⟨ch4, lot4, elw4, hV4, hE4, _⟩ := e_least_wear (n := n) (P := P3) hn hW4
  have et4 := (even_top hW4 hV4 hE4).one (least_more (u := u) hTop)
  refine wp_iff (d := .bl false) (S1 := ⟨[.val .pot, .val (.lst (ns.map nI)), .val (csD ds), .own (vs.map D.int), .val (.int few), .val (.int u), .un, .un, .un, .val (wsD ws), .val (csD (c0 :: cs0)), .val (.int top), .val (tpD ch), .val (tpD lot), j14, j15, .un, .un, .un, .un, .un], P3⟩) (by
    simp only [ev_cmp, ev_idx, ev_cal, evs_cons, ev_bi]
    rw [ev_lc_s (h := D.int) (xs := ws) (fun x => .int (x + u)) (by simp [readS, wsD]) (by omega) (by simp [notOwn]) (fun x hx P => by
      simp [lcGo_eq, wipeE, readS])]
    have e9 : D.tup (ws.map fun x => D.int (x + u)) = wsD (ws.map fun x => x + u) := by simp [wsD]
    have e := elw4
    rw [← e9] at e
    simp [readS, BI.fn, e, i0, et4]) rfl ?_
  refine wp_nil ?_
  -- even ones
  generalize hcc : c0 :: cs0 = cs at *
  obtain ⟨evn, _, eev, hV5, hE5⟩ := e_even_choice (n := n) (P := P3) hn hW
  have el5 := e_law_loads (n := n) (P := P3) hV5.tl
  have ll5 := ld_len evn ws
  have es5 := sort_ints (l := ld ws evn) (by omega)
  obtain ⟨b5, ei5, hb5⟩ := e_is_even (n := n) (P := P3) hn hW hV5
  have hb5 := hb5.mpr hE5
  subst hb5
  have et5 := (even_top hW hV5 hE5).one hTop
  have hne5 : leI (ld ws evn) ≠ [] := fun e => ld_ne hW.ne evn (List.Perm.eq_nil (by rw [← e]; exact (leI_perm _).symm))
  have il5 := ix_last hne5
  rw [last_max (ld_ne hW.ne evn), et5] at il5
  refine wp_to (S1 := ⟨[.val .pot, .val (.lst (ns.map nI)), .val (csD ds), .own (vs.map D.int), .val (.int few), .val (.int u), .val (tpD evn), .un, .un, .val (wsD ws), .val (csD cs), .val (.int top), .val (tpD ch), .val (tpD lot), j14, j15, .un, .un, .un, .un, .un], P3⟩) (by simp [readS, eev, svOf, setS]) ?_
  refine wp_to (S1 := ⟨[.val .pot, .val (.lst (ns.map nI)), .val (csD ds), .own (vs.map D.int), .val (.int few), .val (.int u), .val (tpD evn), .val (.lst ((leI (ld ws evn)).map .int)), .un, .val (wsD ws), .val (csD cs), .val (.int top), .val (tpD ch), .val (tpD lot), j14, j15, .un, .un, .un, .un, .un], P3⟩) (by simp [readS, el5, BI.fn, es5, svOf, setS]) ?_
  refine wp_iff (d := .bl false) (S1 := ⟨[.val .pot, .val (.lst (ns.map nI)), .val (csD ds), .own (vs.map D.int), .val (.int few), .val (.int u), .val (tpD evn), .val (.lst ((leI (ld ws evn)).map .int)), .un, .val (wsD ws), .val (csD cs), .val (.int top), .val (tpD ch), .val (tpD lot), j14, j15, .un, .un, .un, .un, .un], P3⟩) (by simp [readS, intOf, il5, ei5]) rfl ?_
  refine wp_nil ?_
  -- from any choice, chain by chain
  obtain ⟨hs, P4, e4, hl4, hr4, hP4⟩ := ev_lc_rel (Φ := Φ__law_right n) (bo := true) (fz := true) (elt := .cal "_law_of" (.cons false (.slot 0) (.cons false (.slot 18) .nil))) (t := .nm 18) (it := .seq (.slot 10)) (c := .no) (own := [18])
    (S := ⟨[.val .pot, .val (.lst (ns.map nI)), .val (csD ds), .own (vs.map D.int), .val (.int few), .val (.int u), .val (tpD evn), .val (.lst ((leI (ld ws evn)).map .int)), .un, .val (wsD ws), .val (csD cs), .val (.int top), .val (tpD ch), .val (tpD lot), j14, j15, .un, .un, .un, .un, .un], P3⟩) (S1 := ⟨[.val .pot, .val (.lst (ns.map nI)), .val (csD ds), .own (vs.map D.int), .val (.int few), .val (.int u), .val (tpD evn), .val (.lst ((leI (ld ws evn)).map .int)), .un, .val (wsD ws), .val (csD cs), .val (.int top), .val (tpD ch), .val (tpD lot), j14, j15, .un, .un, .un, .un, .un], P3⟩)
    (h := tpD) (xs := cs) (fun i P => PotOk (k0 + 200 + 12 + 1 + i) P) (fun c d => ∃ t : Nat, d = nI t ∧ t ∈ c) (by simp [readS, csD]) (by omega) (by simp [notOwn]) hP3 (fun j c P hc hP => by
      have hj := (List.getElem?_eq_some_iff.mp hc).1
      have hcOk := (hcs c (List.mem_of_getElem? hc)).1
      obtain ⟨d, P', e, hd, hP'⟩ := e_oft (n := n) (ds := c.map nI) hP (by omega) (by rw [List.length_map]; exact hcOk.ne) (by rw [List.length_map]; have := hcOk.le; omega)
      obtain ⟨t, ht, rfl⟩ := List.mem_map.mp hd
      have e : F__law_of n [.pot, tpD c] P = some (.val (nI t), P') := e
      exact ⟨nI t, P', by simp [lcGo_eq, wipeE, readS, e], ⟨t, rfl, ht⟩, hP'⟩)
  obtain ⟨c6, rfl, hV6⟩ : ∃ c6 : List Nat, hs = c6.map nI ∧ Val ws.length cs c6 := by
    have key : ∀ (cs : List (List Nat)) (hs : List D), hs.length = cs.length → (∀ (i : Nat) a d, cs[i]? = some a → hs[i]? = some d → ∃ t : Nat, d = nI t ∧ t ∈ a) → ∃ c6 : List Nat, hs = c6.map nI ∧ ∀ (i t : Nat) (c : List Nat), c6[i]? = some t → cs[i]? = some c → t ∈ c := by
      intro cs
      induction cs with
      | nil =>
        intro hs h _
        refine ⟨[], ?_, fun i t c e => by simp at e⟩
        simpa using h
      | cons c cs ih =>
        intro hs h k
        cases hs with
        | nil => simp at h
        | cons d hs =>
          obtain ⟨t, rfl, ht⟩ := k 0 c d rfl rfl
          obtain ⟨c6, rfl, h6⟩ := ih hs (by simpa using h) fun i a d h1 h2 => k (i + 1) a d h1 h2
          refine ⟨t :: c6, rfl, fun i s a e1 e2 => ?_⟩
          cases i with
          | zero =>
            simp at e1 e2
            rw [← e1, ← e2]
            exact ht
          | succ i => exact h6 i s a e1 e2
    obtain ⟨c6, rfl, h6⟩ := key cs hs hl4 hr4
    exact ⟨c6, rfl, by simpa using hl4, h6, hV.lt⟩
  refine wp_to (S1 := ⟨[.val .pot, .val (.lst (ns.map nI)), .val (csD ds), .own (vs.map D.int), .val (.int few), .val (.int u), .val (tpD evn), .val (.lst ((leI (ld ws evn)).map .int)), .un, .val (wsD ws), .val (csD cs), .val (.int top), .val (tpD ch), .val (tpD lot), j14, j15, .val (tpD c6), .val (.int 0), .un, .un, .un], P4⟩) (by
    have eT : tupleF [.lst (c6.map nI)] = some (tpD c6) := rfl
    simp only [exS_par2, ev_bi, evs_cons]
    simp [e4, BI.fn, svOf, setS, eT]) ?_
  obtain ⟨d7, e7, b7⟩ := e_chain (n := n) (P := P4) hn hW hV6
  refine wp_to (S1 := ⟨[.val .pot, .val (.lst (ns.map nI)), .val (csD ds), .own (vs.map D.int), .val (.int few), .val (.int u), .val (tpD evn), .val (.lst ((leI (ld ws evn)).map .int)), .val d7, .val (wsD ws), .val (csD cs), .val (.int top), .val (tpD ch), .val (tpD lot), j14, j15, .val (tpD c6), .val (.int 0), .un, .un, .un], P4⟩) (by simp [readS, e7, svOf, setS]) ?_
  have g6 : G (ld ws c6) ≤ 800 := by
    have h1 := (G_ld hV6.tl).1
    have h2 := G_first hw12 hw5
    rw [hV6.len, hw12, hc20] at h1
    omega
  refine wp_st0 (fun S => ∃ c8, (Val ws.length cs c8 ∧ Even ws cs c8) ∧ ∃ steps, S = ⟨[.val .pot, .val (.lst (ns.map nI)), .val (csD ds), .own (vs.map D.int), .val (.int few), .val (.int u), .val (tpD evn), .val (.lst ((leI (ld ws evn)).map .int)), .val .non, .val (wsD ws), .val (csD cs), .val (.int top), .val (tpD ch), .val (tpD lot), j14, j15, .val (tpD c8), steps, .un, .un, .un], P4⟩) (wp_while (fun μ S => ∃ (c8 : List Nat) (d : D) (s : Nat), Val ws.length cs c8 ∧ BetD ws cs c8 d ∧ G (ld ws c8) + 4 * s ≤ 800 ∧ s ≤ 200 ∧ 200 - s = μ ∧ S = ⟨[.val .pot, .val (.lst (ns.map nI)), .val (csD ds), .own (vs.map D.int), .val (.int few), .val (.int u), .val (tpD evn), .val (.lst ((leI (ld ws evn)).map .int)), .val d, .val (wsD ws), .val (csD cs), .val (.int top), .val (tpD ch), .val (tpD lot), j14, j15, .val (tpD c8), .val (.int (s : Nat)), .un, .un, .un], P4⟩) 200 (by omega) ⟨c6, d7, 0, hV6, b7, by omega, by omega, rfl, rfl⟩ ?_) ?_
  · rintro μ S ⟨c8, d, s, hV8, b8, g8, s8, hμ, rfl⟩
    rcases b8 with ⟨rfl, hE8⟩ | ⟨new, rfl, hN8⟩
    · exact ⟨.bl false, _, by simp [readS, Ev.isNon], .inl ⟨rfl, c8, ⟨hV8, hE8⟩, .val (.int (s : Nat)), rfl⟩⟩
    · have hg := hN8.G hV8
      have hp := G_nonneg (ld ws new)
      have hs : s < 200 := by omega
      have hdf := differ hV8 hN8
      obtain ⟨d9, e9, b9⟩ := e_chain (n := n) (P := P4) hn hW hN8.1
      have hnn : Ev.isNon (tpD new) = false := rfl
      refine ⟨.bl true, ⟨[.val .pot, .val (.lst (ns.map nI)), .val (csD ds), .own (vs.map D.int), .val (.int few), .val (.int u), .val (tpD evn), .val (.lst ((leI (ld ws evn)).map .int)), .val (tpD new), .val (wsD ws), .val (csD cs), .val (.int top), .val (tpD ch), .val (tpD lot), j14, j15, .val (tpD c8), .val (.int (s : Nat)), .un, .un, .un], P4⟩, by simp [readS, hnn]; omega, .inr ⟨rfl, ?_⟩⟩
      refine wp_iff (d := .bl false) (S1 := ⟨[.val .pot, .val (.lst (ns.map nI)), .val (csD ds), .own (vs.map D.int), .val (.int few), .val (.int u), .val (tpD evn), .val (.lst ((leI (ld ws evn)).map .int)), .val (tpD new), .val (wsD ws), .val (csD cs), .val (.int top), .val (tpD ch), .val (tpD lot), j14, j15, .val (tpD c8), .val (.int (s : Nat)), .un, .un, .un], P4⟩) (by
        have l8 := hV8.len
        have lz : (c8.zip new).length ≤ 1000000 := by simp; omega
        simp only [ev_cmp, ev_bi, evs_cons]
        rw [ev_lc_sf (h := fun (p : Nat × Nat) => D.tup [nI p.1, nI p.2]) (xs := c8.zip new) (fun p => !decide (p.1 = p.2)) (fun _ => .int 1) (by simp [readS, tpD]; exact zipL_map _ _) lz (by simp [notOwn]) (fun p hp P => by
          have q : (decide ((p.1 : Int) = (p.2 : Int))) = decide (p.1 = p.2) := by
            by_cases z : p.1 = p.2
            · simp [z]
            · have z' : ¬ ((p.1 : Int) = (p.2 : Int)) := by omega
              simp [z, z']
          simp [lcGo_eq, wipeE, readS, q])]
        have hdf' : ¬ (((c8.zip new).filter fun p => !decide (p.1 = p.2)).length : Int) < 1 := by omega
        simp only [BI.fn] at *
        simp
        simpa using hdf') rfl ?_
      refine wp_nil ?_
      refine wp_to (S1 := ⟨[.val .pot, .val (.lst (ns.map nI)), .val (csD ds), .own (vs.map D.int), .val (.int few), .val (.int u), .val (tpD evn), .val (.lst ((leI (ld ws evn)).map .int)), .val (tpD new), .val (wsD ws), .val (csD cs), .val (.int top), .val (tpD ch), .val (tpD lot), j14, j15, .val (tpD new), .val (.int ((s + 1 : Nat) : Int)), .un, .un, .un], P4⟩) (by simp [readS, svOf, setS]) ?_
      refine wp_to (S1 := ⟨[.val .pot, .val (.lst (ns.map nI)), .val (csD ds), .own (vs.map D.int), .val (.int few), .val (.int u), .val (tpD evn), .val (.lst ((leI (ld ws evn)).map .int)), .val d9, .val (wsD ws), .val (csD cs), .val (.int top), .val (tpD ch), .val (tpD lot), j14, j15, .val (tpD new), .val (.int ((s + 1 : Nat) : Int)), .un, .un, .un], P4⟩) (by simp [readS, e9, svOf, setS]) ?_
      exact wp_nil ⟨200 - (s + 1), by omega, new, d9, s + 1, hN8.1, b9, by omega, by omega, rfl, rfl⟩
  · rintro S ⟨c8, ⟨hV8, hE8⟩, steps, rfl⟩
    have el8 := e_law_loads (n := n) (P := P4) hV8.tl
    have ll8 := ld_len c8 ws
    have es8 := sort_ints (l := ld ws c8) (by omega)
    have same : leI (ld ws c8) = leI (ld ws evn) := sort_perm (even_perm hV8 hV5 hE8 hE5)
    have eqL := eq_lI (leI (ld ws c8)) (leI (ld ws evn))
    rw [same] at eqL es8
    simp only [decide_true] at eqL
    simp [readS, Ev.isNon, el8, BI.fn, es8, eqL]
    exact hP4.mono (by omega)
/-! ### the loop's body, the end -/
theorem rest_ok : RestOk MM N_law.length (f_rest 1000000) := by
  intro a place P ⟨p1, p2, p3, p4⟩
  have hn : 100000 ≤ 1000000 := by omega
  have hP : PotOk 0 P := ⟨p1, p2, by have := p3; unfold MM at this; omega, by omega, by omega⟩
  generalize 1000000 = n at *
  have hr : rngD 0 2 = _ := rngD_ok (by omega) (by omega) (by omega) (by omega)
  have l1 : Φ_rest n "_law_right" = some (F__law_right n) := rfl
  obtain ⟨ds, P2, e2, dl, dr, hP2⟩ := ev_lc_inv (Φ := Φ_rest n) (bo := true) (fz := true) (elt := .cal "_law_right" (.cons false (.slot 2) .nil)) (t := .nm 3) (it := .rng1 (.con (.int 2))) (c := .no) (own := [3])
    (S := ⟨env0 4 a place, P⟩) (S1 := ⟨env0 4 a place, P⟩) (h := fun (i : Nat) => D.int (0 + i)) (xs := List.range (2 - 0 : Int).toNat) (fun i P => PotOk (1000 * i) P) (fun d => d = .bl true)
    (evi_rng1_ok (j := 2) (by simp) hr) (by simp) (by simp [env0, notOwn, List.replicate]) hP (fun j b P ha hP => by
      have hj : j < 2 := by
        have := (List.getElem?_eq_some_iff.mp ha).1
        simpa using this
      obtain ⟨⟨r1, P1⟩, e1, e1r, hP1⟩ := e_right (n := n) hn hP (by omega)
      simp only at e1r hP1
      subst e1r
      refine ⟨.bl true, P1, ?_, rfl, by rw [Nat.mul_add]; exact hP1⟩
      simp [lcGo_eq, wipeE, env0, readS, List.replicate, l1, e1])
  have hds : ds = [.bl true, .bl true] := by
    match ds, dl, dr with
    | [x, y], _, dr => rw [dr x (by simp), dr y (by simp)]
  subst hds
  refine ⟨⟨env0 4 a place, P2⟩, .inl ?_, rfl, rfl⟩
  have e3 : f_rest n ⟨env0 N_law.length a place, P⟩ = exSs (Φ_rest n) n a_rest ⟨env0 4 a place, P⟩ := rfl
  rw [e3]
  simp only [a_rest, exSs_cons, exS_ife, ev_not, ev_bi, evs_cons, Bool.true_or]
  rw [e2]
  have al : allF [.lst [.bl true, .bl true]] = some (.bl true) := rfl
  simp [BI.fn, al]
theorem tail_is : TailOk N_law.length (f_tail 1000000) := by
  intro a
  have hn : 100000 ≤ 1000000 := by omega
  generalize 1000000 = n at *
  have l1 : Φ_rest n "least_wear" = some (F_least_wear n) := rfl
  have hW : WOk [5] (List.replicate 20 [0]) := ⟨by simp, by simp, by simp, by simp, fun c hc => by
    rw [List.eq_of_mem_replicate hc]
    exact ⟨by simp, by simp, by simp, by simp⟩⟩
  obtain ⟨ch, lot, e, hV, hE, hL⟩ := e_least_wear (n := n) (P := ⟨0, 0, 0⟩) hn hW
  have hch : ch = List.replicate 20 0 := by
    refine List.eq_replicate_iff.mpr ⟨by simpa using hV.len, fun t ht => ?_⟩
    have := hV.tl t ht
    simp at this
    exact this
  subst hch
  have htop : maxL (ld [5] (List.replicate 20 0)) = 25 := by decide +kernel
  rw [htop] at e hL
  have hlot : lot = List.range 20 := by
    rcases hL with ⟨_, h⟩ | ⟨h0, h1, h2, h3, h4⟩
    · exact absurd h (by decide +kernel)
    · have hu : uni (List.replicate 20 [0]) lot = [0] := by
        have m : ∀ x, x ∈ uni (List.replicate 20 [0]) lot → x = 0 := fun x hx => by
          obtain ⟨b, _, c, hc, hm⟩ := (uni_mem x).mp hx
          rw [List.eq_of_mem_replicate (List.mem_of_getElem? hc)] at hm
          simpa using hm
        have nd := uni_nd (List.replicate 20 [0]) lot
        have z : 0 ∈ uni (List.replicate 20 [0]) lot := by
          obtain ⟨b, r, rfl⟩ := List.exists_cons_of_ne_nil h0
          have hb := h2 b List.mem_cons_self
          exact (uni_mem 0).mpr ⟨b, List.mem_cons_self, [0], by rw [List.getElem?_replicate]; simp at hb; simp [hb], by simp⟩
        generalize uni (List.replicate 20 [0]) lot = U at *
        match U, m, nd, z with
        | [x], m, _, _ => rw [m x (by simp)]
        | x :: y :: r, m, nd, _ =>
          have e1 := m x (by simp)
          have e2 := m y (by simp)
          subst e1 e2
          simp at nd
      rw [hu] at h4
      have h20 : lot.length = 20 := by
        have a1 := h4.1
        have a2 := h4.2
        simp [Wn.fill] at a1 a2
        simp at h1
        omega
      have hlt : ∀ x ∈ lot, x < 20 := fun x hx => by have := h2 x hx; simpa using this
      have hp : lot.Perm (List.range 20) := nodup_perm (h3.imp fun h => by omega) List.nodup_range fun t => by
        constructor
        · exact fun h => List.mem_range.mpr (hlt t h)
        · intro h
          refine Classical.byContradiction fun no => ?_
          have := keys_len (T := 20) (l := t :: lot) (List.nodup_cons.mpr ⟨no, h3.imp fun h => by omega⟩) fun x hx => by
            rcases List.mem_cons.mp hx with rfl | hx
            · exact List.mem_range.mp h
            · exact hlt x hx
          simp [h20] at this
      exact List.Perm.eq_of_pairwise (le := fun a b => a < b) (fun a b _ _ h1 h2 => by omega) h3 List.pairwise_lt_range hp
  subst hlot
  have hd : D.tup [.int 25, tpD (List.replicate 20 0), tpD (List.range 20)] = .tup [.int 25, .tup (List.replicate 20 (.int 0)), .tup ((List.range 20).map fun i => .int (i : Nat))] := by simp [tpD]
  have rok : reprOk (.tup [.int 25, .tup (List.replicate 20 (.int 0)), .tup ((List.range 20).map fun i => .int (i : Nat))]) = true := by decide +kernel
  have rep : reprF [.tup [.int 25, .tup (List.replicate 20 (.int 0)), .tup ((List.range 20).map fun i => .int (i : Nat))]] = some (.str (shw (.tup [.int 25, .tup (List.replicate 20 (.int 0)), .tup ((List.range 20).map fun i => .int (i : Nat))]))) := by
    show (if reprOk _ = true then _ else _) = _
    rw [if_pos rok]
  have eqs : cmpB .eq (.str (shw (.tup [.int 25, .tup (List.replicate 20 (.int 0)), .tup ((List.range 20).map fun i => .int (i : Nat))]))) (.str (shw (.tup [.int 25, .tup (List.replicate 20 (.int 0)), .tup ((List.range 20).map fun i => .int (i : Nat))]))) = some true := by
    refine eq_same ?_
    unfold reprOk at rok
    simp only [Bool.and_eq_true] at rok
    show D.pl (19 + 1) (.str _) = true
    rw [D.pl]
    exact rok.1.2
  rw [hd] at e
  generalize hbig : D.tup [.int 25, .tup (List.replicate 20 (.int 0)), .tup ((List.range 20).map fun i => .int (i : Nat))] = big at *
  have lr := lrg_nat (k := 20) (by omega)
  have lr : lrgD (.int 20) = some (.lst ((List.range 20).map fun i => .int (i : Nat))) := lr
  have m1 : binD .mul (.tup [.tup [.int 0]]) (.int 20) = some (csD (List.replicate 20 [0])) := by
    show (if ([D.tup [.int 0]]).isEmpty = false ∧ 0 ≤ (20 : Int) ∧ (20 : Int) ≤ 1000 ∧ ([D.tup [.int 0]]).length ≤ 1000 then some (D.tup (repF 20 [D.tup [.int 0]])) else none) = _
    rw [if_pos ⟨rfl, by omega, by omega, by simp⟩]
    have := repF_one (D.tup [.int 0]) 20
    rw [show (20 : Int) = ((20 : Nat) : Int) from rfl, this]
    simp [csD, tpD]
  have m2 : binD .mul (.tup [.int 0]) (.int 20) = some (.tup (List.replicate 20 (.int 0))) := by
    show (if ([D.int 0]).isEmpty = false ∧ 0 ≤ (20 : Int) ∧ (20 : Int) ≤ 1000 ∧ ([D.int 0]).length ≤ 1000 then some (D.tup (repF 20 [D.int 0])) else none) = _
    rw [if_pos ⟨rfl, by omega, by omega, by simp⟩]
    have := repF_one (D.int 0) 20
    rw [show (20 : Int) = ((20 : Nat) : Int) from rfl, this]
  have ew : F_least_wear n [.tup [.int 5], csD (List.replicate 20 [0])] ⟨0, 0, 0⟩ = some (.val big, ⟨0, 0, 0⟩) := e
  generalize csD (List.replicate 20 [0]) = c20 at m1 ew
  generalize List.replicate 20 (D.int 0) = z20 at m2 hbig
  generalize ((List.range 20).map fun i => D.int (i : Nat)) = r20 at lr hbig
  refine ⟨⟨0, 0, 0⟩, ?_⟩
  unfold f_tail a_tail
  simp [m1, m2, l1, ew, BI.fn, lr, hbig, rep, eqs]
end K62

set_option Elab.async false
set_option linter.all false
set_option maxRecDepth 100000
set_option maxHeartbeats 0
namespace K62
open PySem PySem.Spec PyProof.Rows L2 Ev

theorem facts {P : Program} {w : World} {K : Frag} {h : Heap} {mg : Str → Option Value} {f : Addr} (X : K.In h) (G : h.Ns mainGlobals mg) (hfa : mg ("law" : Str) = some (.ref f)) (c : He.SaysD K62H.fa K62H.fn K) :
    ∃ fd : FuncData, (∀ (s : Shared) (v : Value), BindsTo s fd ⟨[v], []⟩ [("script", v)]) ∧ ∀ base : Heap, K.In base → base.Ns mainGlobals mg → FnG P w K mg base L2.CX0 8 f fd ["script"] (spLawE K) := by
  obtain ⟨fdP, FP⟩ := c.def_ 21 (d := K62H.d__law_pot) rfl
  obtain ⟨fdL, FL⟩ := c.def_ 24 (d := K62H.d__law_places) rfl
  obtain ⟨fd, F⟩ := c.def_ 30 (d := K62H.d_law) rfl
  have e := hfa.symm.trans (He.glo_ok X G (c.fact 30 (f := .glo "law") rfl))
  cases e
  have b := FunD.bindsA (ps := ["script"]) F fun _ _ _ _ _ _ us hl => match us, hl with | [_], _ => rfl
  have hb := blt_all X G c
  refine ⟨fd, fun s v => b s [v] rfl, fun base _ _ => ?_⟩
  have cr := callees (P := P) (w := w) (base := base) X G c 1000000
  exact ok_law F (ok_pot FP hb) (ok_places FL hb) FP.kp FL.kp (FunD.bindsN FP fun _ _ _ _ _ _ us hl => match us, hl with | [_, _], _ => rfl) (FunD.bindsN FL fun _ _ _ _ _ _ us hl => match us, hl with | [_, _], _ => rfl)
    (He.glo_ok X G (c.fact 21 (f := .glo "_law_pot") rfl)) (He.glo_ok X G (c.fact 24 (f := .glo "_law_places") rfl))
    (mok_of hb (glo_all X G c) (by
      intro p hp
      simp only [List.mem_cons, List.not_mem_nil, or_false] at hp
      rcases hp with rfl | rfl
      all_goals first | exact cr.mono (by decide) | exact cr.1.mono (by decide) | exact cr.2.mono (by decide) | exact cr.2.1.mono (by decide) | exact cr.2.2.mono (by decide) | exact cr.2.2.1.mono (by decide) | exact cr.2.2.2.mono (by decide))) rest_ok tail_is
end K62
open PySem PySem.W PySem.Calls PyProof.Rows
theorem PySem.Challenge.cw_mountedintime_k62_whole_wear_at_sizes_holds : PySem.Challenge.rw_mountedintime_k62_whole_wear_at_sizes.Holds := by
  w_on; o_law
  refine HandSHeadRun.head_any (r := OpenLaw.row PySem.Challenge.rw_mountedintime_k62_whole_wear_at_sizes) (q := view (OpenLaw.row PySem.Challenge.rw_mountedintime_k62_whole_wear_at_sizes).prog [43]) (H := K62H.hk) (ob := K62H.ob) (M := 8000) (loose := K62H.names) (d := HandSHeadRun.topDef (OpenLaw.row PySem.Challenge.rw_mountedintime_k62_whole_wear_at_sizes).prog 43) (kwd := []) K62H.ob_eq
    (by kernel_rfl) (fun s => by kernel_rfl) K62H.run (by kernel_rfl) (by kernel_rfl) (by kernel_rfl) (by rfl) (by first | assumption | decide +kernel) (by decide +kernel) ⟨rfl, rfl, rfl, rfl, rfl, by decide +kernel⟩ ?hw ?hc
  case hw => w_witness2
  case hc =>
    refine Ev.walk_ofG (l := PySem.Challenge.rw_mountedintime_k62_whole_wear_at_sizes) (n := 63) (k := 8) (x := "script") (CX := L2.CX0) rfl (by decide) (by kernel_rfl) ⟨rfl, by decide, by decide⟩ ?F (fun _ _ _ _ z => z)
    intro w mg fa h Y G hmg0
    obtain ⟨K, KX, c⟩ := Y
    have hmg : mg ("law" : PySem.Str) = some (.ref fa) := by
      have e : (HandSHeadRun.topDef (OpenLaw.row PySem.Challenge.rw_mountedintime_k62_whole_wear_at_sizes).prog 43).name = ("law" : PySem.Str) := by kernel_rfl
      rw [← e]
      exact hmg0
    obtain ⟨fd, hb, hF⟩ := K62.facts (P := (PySem.Challenge.rw_mountedintime_k62_whole_wear_at_sizes).prog) (w := w) KX G hmg c
    exact ⟨K, fd, Ev.spLawE K, KX, hb, fun H a ns hl _ hS => ⟨a, ns, rfl, hS, fun _ => rfl⟩, hF⟩

