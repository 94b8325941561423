import PyProof.Rows.All
import Wide.All
import OpenK.AllK
import Wide.FinOn
import HandS.Text
import HandS.ForMost
import KE.GoesEnumKw
import HandS.SortKw
import KE.SortKeyHeap
import HandS.IsInst
import HandS.FStr
import HandS.Walk
import HandS.Wide
import HandS.Codes
import HandS.WideBits
import PySem.Challenge.RW_slideroom_k15_whole_texts_both_ways
set_option Elab.async false
set_option linter.all false
set_option maxRecDepth 100000
set_option maxHeartbeats 8000000
/-! Rows of a layout, their texts, and how these are read back: no program in sight. -/
namespace K15
open PySem TL

def lets : Str := "abcdefghijklmnopqrstuvwxyz"
def figs : Str := "0123456789"
def sp : Str := " "
def nl : Str := "\n"
theorem tl_lets : tl lets = (List.range 26).map (97 + ·) := by decide +kernel
theorem tl_figs : tl figs = (List.range 10).map (48 + ·) := by decide +kernel
theorem tl_sp : tl sp = [32] := by decide +kernel
theorem tl_nl : tl nl = [10] := by decide +kernel
theorem lets_mem {c : Nat} : c ∈ tl lets ↔ 97 ≤ c ∧ c < 123 := by
  rw [tl_lets, List.mem_map]
  constructor
  · rintro ⟨k, hk, rfl⟩
    have := List.mem_range.mp hk
    omega
  · intro h
    exact ⟨c - 97, List.mem_range.mpr (by omega), by omega⟩
theorem figs_mem {c : Nat} : c ∈ tl figs ↔ 48 ≤ c ∧ c < 58 := by
  rw [tl_figs, List.mem_map]
  constructor
  · rintro ⟨k, hk, rfl⟩
    have := List.mem_range.mp hk
    omega
  · intro h
    exact ⟨c - 48, List.mem_range.mpr (by omega), by omega⟩

/-- a name -/
structure NameOk (z : Str) : Prop where
  len : 1 ≤ z.length ∧ z.length ≤ 8
  hd : ∃ c, z.cps[0]? = some c ∧ c ∈ tl lets
  all : ∀ c ∈ tl z, c ∈ tl (lets ++ figs)
theorem both_mem {c : Nat} : c ∈ tl (lets ++ figs) ↔ (97 ≤ c ∧ c < 123) ∨ (48 ≤ c ∧ c < 58) := by
  rw [tl_append, List.mem_append, lets_mem, figs_mem]
theorem NameOk.free {z : Str} (h : NameOk z) {s : Nat} (hs : s < 48) : s ∉ tl z := fun hm => by
  have := both_mem.mp (h.all s hm)
  omega

/-- a block: name, start, size, pins -/
structure Rw where
  nm : Str
  st : Nat
  sz : Nat
  pn : Nat

def num (n : Nat) : Str := Str.ofString (toString ((n : Nat) : Int))
theorem tl_numb (n : Nat) : tl (num n) = numL n := tl_num n
theorem num_free {n s : Nat} (h : s < 48) : s ∉ tl (num n) := by
  rw [tl_numb]
  exact numL_free (.inl h)
theorem num_len {n k : Nat} (hk : 0 < k) (h : n < 10 ^ k) : (num n).length ≤ k := by
  rw [len_tl, tl_numb]
  exact numL_len hk h
theorem num_pos (n : Nat) : 1 ≤ (num n).length := by
  rw [len_tl, tl_numb]
  exact List.length_pos_iff.mpr (numL_ne n)
theorem num_figs (n : Nat) : ∀ c ∈ tl (num n), c ∈ tl figs := fun c hc => by
  rw [tl_numb] at hc
  have r := numL_digits n c hc
  exact figs_mem.mpr (by omega)
theorem num_val {n : Nat} (h : n < 10 ^ 30) : intText? (num n) = some (n : Int) := by
  refine int_num (Nat.le_trans (numL_len (k := 30) (by decide) h) (by decide))
theorem numL_head : ∀ n : Nat, 1 ≤ n → ∃ c r, numL n = c :: r ∧ c ≠ 48 := by
  intro n
  induction n using Nat.strongRecOn with
  | _ n ih =>
    intro h1
    by_cases h : n < 10
    · exact ⟨48 + n, [], numL_lt h, by omega⟩
    · obtain ⟨c, r, e, hc⟩ := ih (n / 10) (by omega) (by omega)
      exact ⟨c, r ++ [48 + n % 10], by rw [numL_step (by omega), e, List.cons_append], hc⟩
theorem starts_iff {x y : Str} (hy : tl y ≠ []) : Txt.startswith x y = pre (tl y) (tl x) := by
  have k := at_iff (x := x) hy 0
  rw [List.drop_zero] at k
  have e : Txt.startswith x y = true ↔ StrLaws.At x y x.length 0 := by
    show (decide (0 + y.length ≤ x.length) && Builtin.Str.subAt x y 0) = true ↔ (0 + y.length ≤ x.length ∧ Builtin.Str.subAt x y 0 = true)
    rw [Bool.and_eq_true, decide_eq_true_iff]
  have e2 := e.trans k
  cases h1 : Txt.startswith x y <;> cases h2 : pre (tl y) (tl x) <;> simp [h1, h2] at e2 ⊢
def zero : Str := "0"
theorem tl_zero : tl zero = [48] := by decide +kernel
theorem num_starts {n : Nat} (h : Txt.startswith (num n) zero = true) : num n = zero := by
  by_cases h0 : n = 0
  · subst h0
    exact ext_tl (by rw [tl_numb, tl_zero]; exact numL_lt (by decide))
  · obtain ⟨c, r, e, hc⟩ := numL_head n (by omega)
    rw [starts_iff (by rw [tl_zero]; simp), tl_zero, tl_numb, e, pre_of_head [] r hc] at h
    cases h

/-! ### the text of a row -/
def wAt : Str := "at"
def wSize : Str := "size"
def wPins : Str := "pins"
def wCells : Str := "cells"
def restWords (r : Rw) : List Str := [wAt, num r.st, wSize, num r.sz] ++ (if r.pn = 0 then [] else [wPins, num r.pn])
def rowText (r : Rw) : Str := Txt.join sp (r.nm :: restWords r)
def restText (r : Rw) : Str := Txt.join sp (restWords r)
def headText (many : Nat) : Str := Txt.join sp [wCells, num many]
def whole (many : Nat) (rs : List Rw) : Str := Txt.join nl (headText many :: rs.map rowText)

theorem joinL_free {s : Nat} {S : List Nat} (hS : s ∉ S) : ∀ {parts : List (List Nat)}, (∀ p ∈ parts, s ∉ p) → s ∉ joinL S parts
  | [], _ => by simp [joinL]
  | [p], h => h p (by simp)
  | p :: q :: r, h => by
    show s ∉ p ++ (S ++ joinL S (q :: r))
    rw [List.mem_append, List.mem_append]
    rintro (k | k | k)
    · exact h p (by simp) k
    · exact hS k
    · exact joinL_free hS (fun z hz => h z (List.mem_cons_of_mem _ hz)) k
theorem join_free {s : Nat} {y : Str} (hS : s ∉ tl y) {parts : List Str} (h : ∀ p ∈ parts, s ∉ tl p) : s ∉ tl (Txt.join y parts) := by
  rw [join_eq, tl_join]
  refine joinL_free hS fun p hp => ?_
  obtain ⟨z, hz, rfl⟩ := List.mem_map.mp hp
  exact h z hz
theorem joinL_len (S : List Nat) : ∀ (parts : List (List Nat)) (m : Nat), (∀ p ∈ parts, p.length ≤ m) → (joinL S parts).length ≤ parts.length * (m + S.length)
  | [], m, _ => by simp [joinL]
  | [p], m, h => by
    have := h p (by simp)
    show p.length ≤ 1 * (m + S.length)
    omega
  | p :: q :: r, m, h => by
    have h1 := h p (by simp)
    have h2 := joinL_len S (q :: r) m fun z hz => h z (List.mem_cons_of_mem _ hz)
    show (p ++ (S ++ joinL S (q :: r))).length ≤ ((q :: r).length + 1) * (m + S.length)
    rw [List.length_append, List.length_append, Nat.add_mul]
    omega
theorem join_len {y : Str} {parts : List Str} {m : Nat} (h : ∀ p ∈ parts, p.length ≤ m) : (Txt.join y parts).length ≤ parts.length * (m + y.length) := by
  rw [len_tl, join_eq, tl_join, len_tl y]
  have := joinL_len (tl y) (parts.map tl) m (fun p hp => by
    obtain ⟨z, hz, rfl⟩ := List.mem_map.mp hp
    rw [← len_tl]
    exact h z hz)
  rw [List.length_map] at this
  exact this

theorem words_free {s : Nat} (hs : s = 32 ∨ s = 10) (r : Rw) : ∀ p ∈ restWords r, s ∉ tl p := by
  have k1 : s ∉ tl wAt := by rw [show tl wAt = [97, 116] by decide +kernel]; rcases hs with rfl | rfl <;> decide
  have k2 : s ∉ tl wSize := by rw [show tl wSize = [115, 105, 122, 101] by decide +kernel]; rcases hs with rfl | rfl <;> decide
  have k3 : s ∉ tl wPins := by rw [show tl wPins = [112, 105, 110, 115] by decide +kernel]; rcases hs with rfl | rfl <;> decide
  have k4 : ∀ n, s ∉ tl (num n) := fun n => num_free (by omega)
  intro p hp
  unfold restWords at hp
  rw [List.mem_append] at hp
  rcases hp with hp | hp
  · simp only [List.mem_cons, List.not_mem_nil, or_false] at hp
    rcases hp with rfl | rfl | rfl | rfl
    · exact k1
    · exact k4 _
    · exact k2
    · exact k4 _
  · split at hp
    · cases hp
    · simp only [List.mem_cons, List.not_mem_nil, or_false] at hp
      rcases hp with rfl | rfl
      · exact k3
      · exact k4 _
theorem sp_ok : sp.cps.all (· < 256) = true := by decide +kernel
theorem nl_ok : nl.cps.all (· < 256) = true := by decide +kernel
theorem restWords_ne (r : Rw) : restWords r ≠ [] := by simp [restWords]
theorem split_rest (r : Rw) : Txt.split (restText r) sp = restWords r :=
  split_join (s := 32) (S := []) tl_sp sp_ok (restWords_ne r) (words_free (.inl rfl) r)
theorem cells_free {s : Nat} (hs : s = 32 ∨ s = 10) (many : Nat) : ∀ p ∈ [wCells, num many], s ∉ tl p := by
  have k1 : s ∉ tl wCells := by rw [show tl wCells = [99, 101, 108, 108, 115] by decide +kernel]; rcases hs with rfl | rfl <;> decide
  intro p hp
  simp only [List.mem_cons, List.not_mem_nil, or_false] at hp
  rcases hp with rfl | rfl
  · exact k1
  · exact num_free (by omega)
theorem split_cells (many : Nat) : Txt.split (headText many) sp = [wCells, num many] :=
  split_join (s := 32) (S := []) tl_sp sp_ok (by simp) (cells_free (.inl rfl) many)
theorem row_eq (r : Rw) : rowText r = r.nm ++ sp ++ restText r := by
  unfold rowText restText
  rw [join_eq, join_eq]
  rfl
theorem part_row {r : Rw} (h : NameOk r.nm) : Txt.partition (rowText r) sp = (r.nm, sp, restText r) := by
  rw [row_eq]
  exact partition_app (s := 32) (S := []) tl_sp (h.free (by decide))
theorem row_free {r : Rw} (h : NameOk r.nm) : 10 ∉ tl (rowText r) := by
  refine join_free (by rw [tl_sp]; decide) fun p hp => ?_
  rcases List.mem_cons.mp hp with rfl | hp
  · exact h.free (by decide)
  · exact words_free (.inr rfl) r p hp
theorem head_free (many : Nat) : 10 ∉ tl (headText many) := join_free (by rw [tl_sp]; decide) (cells_free (.inr rfl) many)
theorem split_whole {many : Nat} {rs : List Rw} (h : ∀ r ∈ rs, NameOk r.nm) : Txt.split (whole many rs) nl = headText many :: rs.map rowText := by
  refine split_join (s := 10) (S := []) tl_nl nl_ok (by simp) fun p hp => ?_
  rcases List.mem_cons.mp hp with rfl | hp
  · exact head_free many
  · obtain ⟨r, hr, rfl⟩ := List.mem_map.mp hp
    exact row_free (h r hr)

/-- a row whose numbers are small -/
structure RowOk (many : Nat) (r : Rw) : Prop where
  nm : NameOk r.nm
  sz : 1 ≤ r.sz
  pn : r.pn ≤ 1000
  en : r.st + r.sz ≤ many
structure Good (many : Nat) (rs : List Rw) : Prop where
  lo : 16 ≤ many
  hi : many ≤ 240
  few : rs.length ≤ 40
  row : ∀ r ∈ rs, RowOk many r
  nd : (rs.map Rw.nm).Nodup
  ord : rs.Pairwise fun a b => a.st + a.sz ≤ b.st

theorem restWords_len (r : Rw) : (restWords r).length ≤ 6 := by
  unfold restWords
  split <;> simp
theorem restWords_short {many : Nat} {r : Rw} (hm : many ≤ 240) (h : RowOk many r) : ∀ p ∈ restWords r, p.length ≤ 8 := by
  have k : ∀ n, n ≤ 1000 → (num n).length ≤ 8 := fun n hn => num_len (by decide) (by omega)
  have h2 := h.en
  have h3 := h.pn
  have a1 : wAt.length ≤ 8 := by decide +kernel
  have a2 : wSize.length ≤ 8 := by decide +kernel
  have a3 : wPins.length ≤ 8 := by decide +kernel
  intro p hp
  unfold restWords at hp
  rw [List.mem_append] at hp
  rcases hp with hp | hp
  · simp only [List.mem_cons, List.not_mem_nil, or_false] at hp
    rcases hp with rfl | rfl | rfl | rfl
    · exact a1
    · exact k _ (by omega)
    · exact a2
    · exact k _ (by omega)
  · split at hp
    · cases hp
    · simp only [List.mem_cons, List.not_mem_nil, or_false] at hp
      rcases hp with rfl | rfl
      · exact a3
      · exact k _ h3
theorem sp_len : sp.length = 1 := by decide +kernel
theorem nl_len : nl.length = 1 := by decide +kernel
theorem rest_short {many : Nat} {r : Rw} (hm : many ≤ 240) (h : RowOk many r) : (restText r).length ≤ 54 := by
  have a := join_len (y := sp) (restWords_short hm h)
  have b := restWords_len r
  rw [sp_len] at a
  unfold restText
  omega
theorem row_short {many : Nat} {r : Rw} (hm : many ≤ 240) (h : RowOk many r) : (rowText r).length ≤ 63 := by
  have a := join_len (y := sp) (parts := r.nm :: restWords r) (m := 8) (fun p hp => by
    rcases List.mem_cons.mp hp with rfl | hp
    · exact h.nm.len.2
    · exact restWords_short hm h p hp)
  have b := restWords_len r
  rw [sp_len, List.length_cons] at a
  unfold rowText
  omega
theorem head_short {many : Nat} (hm : many ≤ 240) : (headText many).length ≤ 63 := by
  have a := join_len (y := sp) (parts := [wCells, num many]) (m := 8) (fun p hp => by
    simp only [List.mem_cons, List.not_mem_nil, or_false] at hp
    rcases hp with rfl | rfl
    · decide +kernel
    · exact num_len (by decide) (by omega))
  rw [sp_len] at a
  unfold headText
  simp only [List.length_cons, List.length_nil] at a
  omega
theorem whole_short {many : Nat} {rs : List Rw} (hm : many ≤ 240) (hl : rs.length ≤ 40) (h : ∀ r ∈ rs, RowOk many r) : (whole many rs).length ≤ 2624 := by
  have a := join_len (y := nl) (parts := headText many :: rs.map rowText) (m := 63) (fun p hp => by
    rcases List.mem_cons.mp hp with rfl | hp
    · exact head_short hm
    · obtain ⟨r, hr, rfl⟩ := List.mem_map.mp hp
      exact row_short hm (h r hr))
  rw [nl_len, List.length_cons, List.length_map] at a
  unfold whole
  omega
/-- the sum of the lengths, as a join asks it -/
theorem sum_len {parts : List Str} {m : Nat} (h : ∀ p ∈ parts, p.length ≤ m) : (parts.map (·.length)).sum ≤ parts.length * m := by
  induction parts with
  | nil => simp
  | cons p r ih =>
    have h1 := h p (by simp)
    have h2 := ih fun z hz => h z (List.mem_cons_of_mem _ hz)
    rw [List.map_cons, List.sum_cons, List.length_cons, Nat.add_mul]
    omega
theorem whole_sum {many : Nat} {rs : List Rw} (hm : many ≤ 240) (hl : rs.length ≤ 40) (h : ∀ r ∈ rs, RowOk many r) : ((headText many :: rs.map rowText).map (·.length)).sum + (headText many :: rs.map rowText).length * nl.length ≤ 16777216 := by
  have a := sum_len (parts := headText many :: rs.map rowText) (m := 63) (fun p hp => by
    rcases List.mem_cons.mp hp with rfl | hp
    · exact head_short hm
    · obtain ⟨r, hr, rfl⟩ := List.mem_map.mp hp
      exact row_short hm (h r hr))
  have e : (headText many :: rs.map rowText).length ≤ 41 := by
    rw [List.length_cons, List.length_map]
    omega
  rw [nl_len]
  omega

/-! ### what the program writes -/
theorem emp_app (x : Str) : Str.empty ++ x = x := ext_tl (by rw [tl_append]; rfl)
theorem wrote_head (many : Nat) : Str.empty ++ ("cells " : Str) ++ num many = headText many := by
  refine ext_tl ?_
  unfold headText
  rw [join_eq, tl_join, tl_append, emp_app, show tl (("cells " : Str)) = tl wCells ++ tl sp by decide +kernel]
  simp [joinL]
theorem wrote_row0 {r : Rw} (h : r.pn = 0) : Str.empty ++ r.nm ++ (" at " : Str) ++ num r.st ++ (" size " : Str) ++ num r.sz = rowText r := by
  refine ext_tl ?_
  unfold rowText restWords
  rw [if_pos h, join_eq, tl_join, emp_app]
  simp only [tl_append]
  rw [show tl ((" at " : Str)) = tl sp ++ tl wAt ++ tl sp by decide +kernel, show tl ((" size " : Str)) = tl sp ++ tl wSize ++ tl sp by decide +kernel]
  simp [joinL]
theorem wrote_rowP {r : Rw} (h : r.pn ≠ 0) : (Str.empty ++ r.nm ++ (" at " : Str) ++ num r.st ++ (" size " : Str) ++ num r.sz) ++ (Str.empty ++ (" pins " : Str) ++ num r.pn) = rowText r := by
  refine ext_tl ?_
  unfold rowText restWords
  rw [if_neg h, join_eq, tl_join, emp_app, emp_app]
  simp only [tl_append]
  rw [show tl ((" at " : Str)) = tl sp ++ tl wAt ++ tl sp by decide +kernel, show tl ((" size " : Str)) = tl sp ++ tl wSize ++ tl sp by decide +kernel, show tl ((" pins " : Str)) = tl sp ++ tl wPins ++ tl sp by decide +kernel]
  simp [joinL]
theorem law_head (many : Nat) : ("cells " : Str) ++ num many = headText many := by
  have := wrote_head many
  rw [emp_app] at this
  exact this
end K15

/-! The names that the law draws; rows in any order; rows drawn one by one. -/
namespace K15
open PySem TL

/-! ### names -/
/-- the tail: seven signs out of eight -/
def drawn : Str := "ab019zyk"
theorem tl_drawn : tl drawn = [97, 98, 48, 49, 57, 122, 121, 107] := by decide +kernel
theorem drawn_ok : ∀ c ∈ tl drawn, ((97 ≤ c ∧ c < 123) ∨ (48 ≤ c ∧ c < 58)) ∧ c ≠ 120 := by
  rw [tl_drawn]
  decide
structure TailOk (z : Str) : Prop where
  len : z.length = 7
  all : ∀ c ∈ tl z, c ∈ tl drawn
theorem nameOk_of {z : Str} {c : Nat} {r : List Nat} (e : tl z = c :: r) (hc : 97 ≤ c ∧ c < 123) (hr : r.length ≤ 7) (h : ∀ d ∈ r, (97 ≤ d ∧ d < 123) ∨ (48 ≤ d ∧ d < 58)) : NameOk z := by
  have hl : z.length = r.length + 1 := by rw [len_tl, e, List.length_cons]
  refine ⟨⟨by omega, by omega⟩, ⟨c, ?_, lets_mem.mpr hc⟩, fun d hd => ?_⟩
  · have q : (tl z)[0]? = some c := by rw [e]; rfl
    rw [Array.getElem?_toList] at q
    exact q
  · rw [e] at hd
    rcases List.mem_cons.mp hd with rfl | hd
    · exact both_mem.mpr (.inl hc)
    · exact both_mem.mpr (h d hd)
theorem nodup_of {α : Type} {l : List α} (h : ∀ (i j : Nat) (x : α), i < j → l[i]? = some x → l[j]? = some x → False) : l.Nodup := by
  rw [List.Nodup, List.pairwise_iff_getElem]
  intro i j hi hj hij e
  exact h i j l[i] hij (List.getElem?_eq_getElem hi) (by rw [List.getElem?_eq_getElem hj, e])
/-- the first kind of names: five letters, each with every length of the tail -/
def nameA (shift : Nat) (tail : Str) (k : Nat) : List Nat := (97 + (shift + k / 8) % 26) :: (tl tail).take (k % 8)
theorem take_len {z : Str} (t : TailOk z) {n : Nat} (h : n ≤ 7) : ((tl z).take n).length = n := by
  have e := t.len
  rw [len_tl] at e
  rw [List.length_take, e]
  omega
theorem nameA_ok {z tail : Str} {shift k : Nat} (t : TailOk tail) (e : tl z = nameA shift tail k) : NameOk z := by
  refine nameOk_of e (by omega) (by rw [take_len t (by omega)]; omega) fun d hd => ?_
  exact (drawn_ok d (t.all d (List.mem_of_mem_take hd))).1
theorem nameA_inj {tail : Str} {shift i j : Nat} (t : TailOk tail) (hi : i < 40) (hj : j < 40) (e : nameA shift tail i = nameA shift tail j) : i = j := by
  unfold nameA at e
  injection e with e1 e2
  have e3 := congrArg List.length e2
  rw [take_len t (by omega), take_len t (by omega)] at e3
  omega
theorem namesA_nd {tail : Str} {shift : Nat} {l : List Str} (t : TailOk tail) (hl : l.length ≤ 40) (h : ∀ i z, l[i]? = some z → tl z = nameA shift tail i) : l.Nodup := by
  refine nodup_of fun i j x hij h1 h2 => ?_
  have a1 := (List.getElem?_eq_some_iff.mp h1).1
  have a2 := (List.getElem?_eq_some_iff.mp h2).1
  have := nameA_inj t (by omega) (by omega) ((h i x h1).symm.trans (h j x h2))
  omega
/-- the second kind: one letter, an x from the 26th on, a part of the tail that is drawn -/
def nameB (shift : Nat) (tail : Str) (k v : Nat) : List Nat := (97 + (shift + 7 * k) % 26) :: (List.replicate (k / 26) 120 ++ (tl tail).take v)
theorem nameB_ok {z tail : Str} {shift k v : Nat} (t : TailOk tail) (hk : k < 40) (hv : v < 8 - k / 26) (e : tl z = nameB shift tail k v) : NameOk z := by
  refine nameOk_of e (by omega) (by rw [List.length_append, List.length_replicate, take_len t (by omega)]; omega) fun d hd => ?_
  rcases List.mem_append.mp hd with hd | hd
  · rw [(List.mem_replicate.mp hd).2]
    decide
  · exact (drawn_ok d (t.all d (List.mem_of_mem_take hd))).1
theorem nameB_inj {tail : Str} {shift i j v w : Nat} (t : TailOk tail) (hi : i < j) (hj : j < 40) (e : nameB shift tail i v = nameB shift tail j w) : False := by
  unfold nameB at e
  injection e with e1 e2
  have e3 : j / 26 = 1 ∧ i / 26 = 0 := by omega
  rw [e3.1, e3.2] at e2
  have e4 : (tl tail).take v = 120 :: (tl tail).take w := e2
  have m : 120 ∈ (tl tail).take v := by rw [e4]; simp
  exact (drawn_ok 120 (t.all 120 (List.mem_of_mem_take m))).2 rfl
theorem namesB_nd {tail : Str} {shift : Nat} {l : List Str} (t : TailOk tail) (hl : l.length ≤ 40) (h : ∀ i z, l[i]? = some z → ∃ v, tl z = nameB shift tail i v) : l.Nodup := by
  refine nodup_of fun i j x hij h1 h2 => ?_
  have a2 := (List.getElem?_eq_some_iff.mp h2).1
  obtain ⟨v, e1⟩ := h i x h1
  obtain ⟨w, e2⟩ := h j x h2
  exact nameB_inj t hij (by omega) (e1.symm.trans e2)

/-! ### rows in any order -/
theorem Good.perm_row {many : Nat} {rs ps : List Rw} (g : Good many rs) (p : ps.Perm rs) : ∀ r ∈ ps, RowOk many r := fun r hr => g.row r (p.mem_iff.mp hr)
theorem Good.perm_few {many : Nat} {rs ps : List Rw} (g : Good many rs) (p : ps.Perm rs) : ps.length ≤ 40 := by
  rw [p.length_eq]
  exact g.few
theorem Good.perm_nd {many : Nat} {rs ps : List Rw} (g : Good many rs) (p : ps.Perm rs) : (ps.map Rw.nm).Nodup := (p.map Rw.nm).nodup_iff.mpr g.nd
/-- two blocks share no cell -/
def Apart (a b : Rw) : Prop := a.st + a.sz ≤ b.st ∨ b.st + b.sz ≤ a.st
theorem Good.perm_apart {many : Nat} {rs ps : List Rw} (g : Good many rs) (p : ps.Perm rs) : ps.Pairwise Apart := by
  have h1 : rs.Pairwise Apart := g.ord.imp fun h => .inl h
  exact (p.symm.pairwise h1 fun h => h.symm)
/-- by rising starts there is one order -/
theorem sorted_one : ∀ {xs ys : List Rw}, xs.Perm ys → xs.Pairwise (fun a b => a.st ≤ b.st) → ys.Pairwise (fun a b => a.st < b.st) → xs = ys := by
  intro xs ys p hx hy
  induction ys generalizing xs with
  | nil => exact p.eq_nil
  | cons y ys ih =>
    cases xs with
    | nil => exact absurd p.symm.eq_nil (by simp)
    | cons x xs =>
      have hx' := List.pairwise_cons.mp hx
      have hy' := List.pairwise_cons.mp hy
      have e : x = y := by
        rcases List.mem_cons.mp (p.mem_iff.mp (List.mem_cons_self)) with e | m
        · exact e
        · rcases List.mem_cons.mp (p.mem_iff.mpr (List.mem_cons_self)) with e | m2
          · exact e.symm
          · have a := hy'.1 x m
            have b := hx'.1 y m2
            omega
      subst e
      rw [ih (p.cons_inv) hx'.2 hy'.2]
theorem Good.starts {many : Nat} {rs : List Rw} (g : Good many rs) : rs.Pairwise (fun a b => a.st < b.st) := by
  refine (List.pairwise_iff_getElem.mpr fun i j hi hj hij => ?_)
  have h := (List.pairwise_iff_getElem.mp g.ord) i j hi hj hij
  have h2 := (g.row rs[i] (List.getElem_mem hi)).sz
  omega

/-! ### rows drawn one by one -/
structure Some (many : Nat) (names : List Str) (k at_ : Nat) (rs : List Rw) : Prop where
  few : rs.length ≤ k
  row : ∀ r ∈ rs, RowOk many r ∧ r.st + r.sz ≤ at_
  sub : (rs.map Rw.nm).Sublist (names.take k)
  ord : rs.Pairwise fun a b => a.st + a.sz ≤ b.st
theorem Some.start (many : Nat) (names : List Str) : Some many names 0 0 [] := ⟨Nat.le_refl _, fun _ h => (nomatch h), by simp, .nil⟩
theorem Some.skip {many : Nat} {names : List Str} {k at_ : Nat} {rs : List Rw} (s : Some many names k at_ rs) : Some many names (k + 1) at_ rs :=
  ⟨Nat.le_succ_of_le s.few, s.row, s.sub.trans (List.take_sublist_take_left (Nat.le_succ k)), s.ord⟩
theorem Some.more {many : Nat} {names : List Str} {k at_ gap size pins : Nat} {z : Str} {rs : List Rw} (s : Some many names k at_ rs) (hz : names[k]? = some z) (hn : NameOk z) (h1 : 1 ≤ size) (h2 : at_ + gap + size ≤ many) (hp : pins ≤ 1000) :
    Some many names (k + 1) (at_ + gap + size) (rs ++ [⟨z, at_ + gap, size, pins⟩]) := by
  refine ⟨?_, fun r hr => ?_, ?_, ?_⟩
  · have := s.few
    rw [List.length_append, List.length_singleton]
    omega
  · rcases List.mem_append.mp hr with hr | hr
    · obtain ⟨a, b⟩ := s.row r hr
      exact ⟨a, by omega⟩
    · rw [List.mem_singleton.mp hr]
      exact ⟨⟨hn, h1, hp, h2⟩, Nat.le_refl _⟩
  · rw [List.map_append, List.take_add_one, hz]
    exact s.sub.append (List.Sublist.refl _)
  · refine List.pairwise_append.mpr ⟨s.ord, List.pairwise_singleton _ _, fun a ha b hb => ?_⟩
    rw [List.mem_singleton.mp hb]
    have := (s.row a ha).2
    show a.st + a.sz ≤ at_ + gap
    omega
theorem Some.good {many : Nat} {names : List Str} {k at_ : Nat} {rs : List Rw} (s : Some many names k at_ rs) (lo : 16 ≤ many) (hi : many ≤ 240) (hk : k ≤ 40) (hnd : names.Nodup) : Good many rs :=
  ⟨lo, hi, Nat.le_trans s.few hk, fun r hr => (s.row r hr).1, (hnd.sublist ((s.sub.trans (List.take_sublist k names)))), s.ord⟩

/-! ### a drawn order -/
theorem erase_one {α : Type} : ∀ (l : List α) (i : Nat) (y : α), l[i]? = some y → ([y] ++ l.eraseIdx i).Perm l
  | [], _, _, h => by simp at h
  | a :: r, 0, y, h => by
    have e : a = y := Option.some.inj h
    subst e
    exact List.Perm.refl _
  | a :: r, i + 1, y, h => by
    have ih := erase_one r i y h
    show (y :: a :: r.eraseIdx i).Perm (a :: r)
    exact (List.Perm.swap a y _).trans (ih.cons a)
theorem perm_step {α : Type} {found left some_ : List α} {i : Nat} {x : α} (h : (found ++ left).Perm some_) (hx : left[i]? = some x) : ((found ++ [x]) ++ left.eraseIdx i).Perm some_ := by
  refine List.Perm.trans ?_ h
  rw [List.append_assoc]
  refine List.Perm.append_left found ?_
  exact erase_one left i x hx
end K15

/-! Numbered walks: enumerate of a tuple, enumerate of a list from a told number on; text * 0 and text * 1. -/
namespace K15
open PySem PySem.Spec PyProof.Rows L2

/-! ### enumerate(v) with v alone, v told by how its iterator begins -/
/-- the record of a new enumerate object over the iterator at j -/
def enumRec (j : Addr) : Obj := { cls := .type "enumerate", data := .fields #[.none, .bool false, .ref j, rawInt 0, .none, .none] }
theorem new_alone {v : Value} {o : Obj} {St0 : Heap → Prop} (B : Begins v o St0) :
    Meets (Builtin.«enumerate.__new__» ⟨[.type "enumerate", v], []⟩) (fun _ R st => St0 st.heap ∧ R (.ok (.ret (.ref (st.heap.push o).objs.size))) { st with heap := (st.heap.push o).push (enumRec st.heap.objs.size) }) := by
  refine Meets.of_wp fun pr wo Ar R st hyp => ?_
  obtain ⟨hp, gs, dr, tk, os⟩ := st
  obtain ⟨h0, fin⟩ := hyp
  have isSub := sub_enumerate
  have begin_ : ∀ {Ar' : Around} {Er Qr : Value → Shared → Prop}, Qr (.ref hp.objs.size) ⟨hp.push o, gs, dr, tk, os⟩ → wpAny (model pr wo) Ar' (pyIter v) Qr Er ⟨hp, gs, dr, tk, os⟩ := fun z => B.iter pr wo _ _ _ _ h0 z
  wp_walk using begin_
  refine wpAny_stack_any (fun stk => wpAny_pure ?_)
  split
  · rename_i cc _ _ _ _ _
    cases (cc == Value.type "enumerate") <;> (wp_walk using begin_; exact ⟨_, rfl, fin⟩)
  · wp_walk using begin_
    exact ⟨_, rfl, fin⟩
/-- behind the call: the enumerate object and its iterator are new, all else stands -/
structure Begun (g h : Heap) (o : Obj) (k : Int) : Prop where
  en : IsEnum h (g.objs.size + 1) g.objs.size k .none
  it : h.get? g.objs.size = some o
  old : ∀ b u, g.get? b = some u → h.get? b = some u
theorem call_alone {pr : Program} {wo : World} {Ar : Around} {Er Qr : Value → Shared → Prop} {st : Shared} {v : Value} {o : Obj} {St0 : Heap → Prop} (B : Begins v o St0) (h0 : St0 st.heap)
    (fin : ∀ h', Begun st.heap h' o 0 → Qr (.ref (st.heap.objs.size + 1)) { st with heap := h' }) : wpAny (model pr wo) Ar (call (.type "enumerate") [v]) Qr Er st := by
  have two : (st.heap.push o).objs.size = st.heap.objs.size + 1 := Heap.size_push ..
  have top := Heap.get?_push_size (st.heap.push o) (o := enumRec st.heap.objs.size) rfl
  rw [two] at top
  have step := callType_new (prog := pr) (w := wo) (A := Ar) (E := Er) (Q := Qr) (s := st) F.called_enumerate (by decide) (F.typeCall_enumerate_1 v) (F.newCall_enumerate_1 v) (fun ob => F.args_object_init_2 ob v) F.entry_enumerate_new (new_alone B)
  refine step ⟨h0, ?_⟩
  show _ ∧ _
  rw [two]
  exact ⟨⟨_, top, rfl⟩, fin _ ⟨top, Heap.get?_push_of_some _ (Heap.get?_push_size _ B.free), fun b u e => Heap.get?_push_of_some _ (Heap.get?_push_of_some _ e)⟩⟩

/-! ### the walk, for lists and tuples at once -/
/-- each of xs, as Sq tells them, in a new pair with its number from k0 on -/
def ItNum (Sq : Hp → List V → Prop) (k0 : Int) : It where
  go := fun i H => ∃ xs x, Sq H xs ∧ xs[i]? = some x
  yld := fun i H v H' => ∃ T x, v = .ref T ∧ H T = none ∧ H' = upd H T (.tup [.int (k0 + (i : Nat)), x]) ∧ ∀ xs, Sq H xs → xs[i]? = some x
  stop := fun i H => ∃ xs, Sq H xs ∧ xs.length = i
/-- what is walked stands as Sq tells; its own iterator at `it` is at place i where N i -/
structure Src (P : Program) (w : World) (K : PySem.W.Frag) (Sq : Hp → List V → Prop) (it : Addr) (N : Nat → Heap → Prop) : Prop where
  shape : ∀ {i h}, N i h → ∃ o vs n, h.get? it = some o ∧ o.cls = .type n ∧ o.data = .fields vs
  stay : ∀ {i h h'}, N i h → (∀ o, h.get? it = some o → h'.get? it = some o) → N i h'
  one : ∀ {X : Cx} {pins σ H s xs ys}, X.K = K → Inv X pins σ H s → Sq H xs → Sq H ys → xs = ys
  draw : ∀ {X : Cx} {pins σ H s xs i}, X.prog = P → X.w = w → X.K = K → X.calm = true → Inv X pins σ H s → Sq H xs → N i s.heap →
    ∃ (its : List Value) (fp : List Addr) (Z : Nat → Heap → Prop), Vals xs its ∧ Draws P w X.A.in1 it fp its.toArray.size (fun j v => its.toArray[j]? = some v) Z ∧ Z i s.heap ∧
      (∀ e o, e ≠ it → s.heap.get? e = some o → o.cls = .type "enumerate" → e ∉ fp) ∧ ∀ j h', Z j h' → N j h'
theorem apart_of {h : Heap} {a b : Addr} {o u : Obj} {m n : String} (ha : h.get? a = some o) (hb : h.get? b = some u) (hm : o.cls = .type m) (hn : u.cls = .type n) (d : m ≠ n) : a ≠ b := fun e => by
  have q : o = u := Option.some.inj (ha.symm.trans ((congrArg h.get? e).trans hb))
  rw [q, hn] at hm
  injection hm with z
  exact d z.symm
theorem src_list {P : Program} {w : World} {K : PySem.W.Frag} {a it : Addr} : Src P w K (fun H xs => SqL K H a xs) it (fun i h => h.IsListIter it a i) where
  shape := fun ⟨o, e, c, d⟩ => ⟨o, _, _, e, c, d⟩
  stay := fun n k => n.at k
  one := fun e I p q => by subst e; exact I.list_inj p q
  draw := fun eP ew eK hc I q n => by
    subst eP ew eK
    obtain ⟨its, rv, pl, _⟩ := I.list q
    obtain ⟨o1, q1, c1, _⟩ := id n
    obtain ⟨o2, q2, c2, _⟩ := pl.isList
    have hne := apart_of q2 q1 c2 c1 (by decide)
    refine ⟨its, [it, a], fun i h => h.IsListIter it a i ∧ h.IsList a its.toArray, rv, Draws.list (A := _) (show (Around.in1 _).handled = none from I.ok.hd hc) it a hne its.toArray, ⟨n, pl.isList⟩, fun e o ne he ce hm => ?_, fun j h' z => z.1⟩
    rcases List.mem_cons.mp hm with rfl | hm
    · exact ne rfl
    · exact apart_of he q2 ce c2 (by decide) (List.mem_singleton.mp hm)
theorem src_tuple {P : Program} {w : World} {K : PySem.W.Frag} {a it : Addr} : Src P w K (fun H xs => SqT K H a xs) it (fun i h => h.IsTupleIter it a i) where
  shape := fun ⟨o, e, c, d⟩ => ⟨o, _, _, e, c, d⟩
  stay := fun n k => n.at k
  one := fun e I p q => by subst e; exact I.tuple_inj p q
  draw := fun eP ew eK hc I q n => by
    subst eP ew eK
    obtain ⟨its, rv, pt, _⟩ := I.tuple q
    obtain ⟨o1, q1, c1, _⟩ := id n
    obtain ⟨o2, q2, c2, x2⟩ := id pt
    have hne := apart_of q2 q1 c2 c1 (by decide)
    refine ⟨its, [it, a], fun i h => h.IsTupleIter it a i ∧ h.IsTuple a its.toArray, rv, Draws.tuple (A := _) (show (Around.in1 _).handled = none from I.ok.hd hc) it a hne its.toArray, ⟨n, ⟨o2, q2, c2, x2⟩⟩, fun e o ne he ce hm => ?_, fun j h' z => z.1⟩
    rcases List.mem_cons.mp hm with rfl | hm
    · exact ne rfl
    · exact apart_of he q2 ce c2 (by decide) (List.mem_singleton.mp hm)
theorem num_turn {P : Program} {w : World} {K : PySem.W.Frag} {Sq : Hp → List V → Prop} {it : Addr} {N : Nat → Heap → Prop} (S : Src P w K Sq it N) {names : List Expr} {kk : Nat} {tpos : Pos} (k0 : Int) (en : Addr) :
    Turn P w K (.Tuple names kk tpos) (ItNum Sq k0) [en, it] en (fun i h => (∃ old, IsEnum h en it (k0 + ((i : Nat) : Int)) old) ∧ N i h ∧ en ≠ it) := by
  have two : ∀ {b : Addr}, b ∈ [en, it] → b = en ∨ b = it := fun m => by simpa using m
  refine ⟨by simp, fun i h t b m => ?_, fun i h h' t k => ?_, fun X eP ew eK hc i pins s σ H E I fpk t go => ?_, fun X eP ew eK hc i pins s σ H E I fpk t st => ?_, fun Ar i s Q E t z => ?_⟩
  · rcases two m with rfl | rfl
    · obtain ⟨⟨_, z⟩, _⟩ := t
      exact ⟨_, z, fun v y => nomatch y⟩
    · obtain ⟨o, vs, n, e, _, d⟩ := S.shape t.2.1
      exact ⟨o, e, fun v y => by rw [d] at y; cases y⟩
  · exact ⟨⟨t.1.choose, k en (by simp) _ t.1.choose_spec⟩, S.stay t.2.1 fun o e => k it (by simp) o e, t.2.2⟩
  · obtain ⟨xs, x, sq, hx⟩ := go
    obtain ⟨⟨old, ie⟩, n, ne⟩ := t
    obtain ⟨its, fp, Z, rv, D, z0, off, back⟩ := S.draw eP ew eK hc I sq n
    subst eP ew
    obtain ⟨u, hu, ru⟩ := rv.get hx
    obtain ⟨_, _, _, itAt, _, _⟩ := S.shape n
    have lt1 := Heap.lt_size (show s.heap.get? en = some _ from ie)
    have lt2 := Heap.lt_size itAt
    have room : i < its.toArray.size := by rw [List.size_toArray]; exact (List.getElem?_eq_some_iff.mp hu).1
    refine wpAny_pyNext_enum_itemC D ie z0 room ne (off en _ ne ie rfl) fun y h1 tk hy out z1 tup _ kp => ⟨_, rfl, wpAny_letOwnedTupleGo_enum (s := { s with heap := h1, toks := tk + 1 }) out fun h2 ie2 sb => ?_⟩
    obtain rfl : u = y := Option.some.inj ((show its.toArray[i]? = some u by simpa using hu).symm.trans hy)
    have tup2 : h2.get? s.heap.objs.size = some { cls := .type "tuple", data := .seq #[.int (k0 + (i : Nat)) tk, u] } := (sb.2 _ (Nat.ne_of_gt lt1)).trans tup
    have pair : ObjOk X.prog X.w (upd H s.heap.objs.size (.tup [.int (k0 + (i : Nat)), x])) h2 s.heap.objs.size (.tup [.int (k0 + (i : Nat)), x]) := ⟨by show 2 ≤ sizeLine; decide, [_, u], .cons ⟨tk, rfl⟩ (.cons ru .nil), _, tup2, rfl, _, rfl⟩
    have stands : ∀ b o, b ∉ [en, it] → s.heap.get? b = some o → h2.get? b = some o := fun b o m e => by
      rw [List.mem_cons, List.mem_singleton, not_or] at m
      exact (sb.2 b m.1).trans (kp b o m.1 m.2 e)
    refine ⟨.ref s.heap.objs.size, _, I.turnedNew (ch := [en, it]) stands fpk (Nat.le_refl _) pair, rfl, ⟨_, x, rfl, I.hok.fresh (Nat.le_refl _), rfl, fun ys hy => ?_⟩, ⟨⟨u, ?_⟩, ?_, ne⟩, fun b m => ?_⟩
    · rw [S.one eK I hy sq]
      exact hx
    · rw [show k0 + ((i + 1 : Nat) : Int) = k0 + (i : Int) + 1 by omega]
      exact ie2
    · exact S.stay (back _ _ z1) fun o e => (sb.2 it ne.symm).trans e
    · have low : b < s.heap.objs.size := by rcases two m with rfl | rfl <;> assumption
      rw [upd_ne (Nat.ne_of_lt low)]
      exact (fpk b m).1
  · obtain ⟨xs, sq, hl⟩ := st
    obtain ⟨⟨old, ie⟩, n, ne⟩ := t
    obtain ⟨its, fp, Z, rv, D, z0, _, _⟩ := S.draw eP ew eK hc I sq n
    subst eP ew
    have size : its.toArray.size = i := by rw [List.size_toArray, ← rv.length]; exact hl
    obtain ⟨w0, w1, w2, w3, w4, w5⟩ := fpk it (by simp)
    exact wpAny_pyNext_enum_endD D ie (size.symm ▸ z0) fun h' kept => ⟨rfl, I.turned (t' := s.toks) (fun b o nb e => kept b o nb e) w0 w1 w3 w4 w5⟩
  · exact wpAny_pyIter_enum t.1.choose_spec z

/-! ### the two that are walked -/
theorem call_typeK {M : Model} {Ar : Around} {Er Qr : Value → Shared → Prop} {st : Shared} {en : Env} {pos : Pos} {T : String} {x : Sem Value} {more : List (Bool × Sem Value)} {kw : List (Option Str × Sem Value)}
    (plain : more.any (·.1) = false) (named : kw.all (·.1.isSome) = true) (none_ : kw.any (·.1.isNone) = false)
    (h : wpAny M Ar (spliced ((false, x) :: more)) (fun vs s1 => wpAny M Ar (evalAll (kw.map (·.2))) (fun ws s2 => wpAny M Ar (call (.type T) vs ((kw.filterMap (·.1)).zip ws)) Qr Er s2) Er s1) Er st) :
    wpAny M Ar (callWith pos (.type T) [] ((false, x) :: more) kw) Qr Er st := by
  unfold callWith
  refine wpAny_bind (wpAny_holding (wpAny_mono (evalArgs_kwB (f := .type T) (Q := fun ar s2 => wpAny M Ar (call (.type T) ar.pos ar.kw) Qr Er s2) named h) (fun ar s1 z => wpAny_bind (wpAny_standAt ?_)) fun _ _ y => y))
  rw [List.any_cons, plain, none_]
  refine wpAny_bind (wpAny_pure (wpAny_bind (wpAny_mono z (fun v s2 y => ?_) fun _ _ y => y)))
  exact wpAny_bind (wpAny_holding (wpAny_point (wpAny_pure y)))
theorem new_two {X : Cx} {pins : List (Addr × Obj)} {σ : L2.St} {H : Hp} {s : Shared} (I : Inv X pins σ H s) : ∀ b ∈ [s.heap.objs.size + 1, s.heap.objs.size], FpOk X pins H b := fun b m => by
  have high : s.heap.objs.size ≤ b := by
    rcases List.mem_cons.mp m with rfl | m
    · exact Nat.le_succ _
    · exact Nat.le_of_eq (List.mem_singleton.mp m).symm
  exact I.fpOk high (I.hok.fresh high)
def iNumT (K : PySem.W.Frag) (ta : TA) : TI := fun σ H R => ta σ H fun vs H1 => ∃ a xs, vs = [.ref a] ∧ SqT K H1 a xs ∧ R (ItNum (fun H xs => SqT K H a xs) 0) H1
theorem pi_numT {X : Cx} {e : Expr} {ta : TA} {p pos tpos : Pos} {names : List Expr} {kk : Nat} (hg : Gl X "enumerate") (hm : X.mg "enumerate" = none) (ha : PA X [e] ta) (hs : starEach [e] X.env = [(false, eval e X.env)] := by rfl) :
    PI X (.Tuple names kk tpos) (.Call (.Name "enumerate" p) [e] [] pos) (iNumT X.K ta) := ⟨fun pins s σ H R I h => by
  refine Call_ (ld_blt I hg hm boot_enumerate (PyProof.Rows.callWith_type1 (thn (ha.run pos pins s σ H _ I h) fun us s1 ⟨vs, H1, I1, r1, a, xs, ev, sq, fin⟩ => ?_) hs rfl))
  subst ev
  obtain rfl := Vals.ref1 r1
  obtain ⟨its, _, pt, _⟩ := I1.tuple sq
  refine call_alone (begins_tuple a its.toArray) (show s1.heap.IsTuple a its.toArray from pt) fun h' b => wpAny_pyIter_enum b.en ?_
  exact ⟨_, _, _, _, H1, rfl, I1.kept (t' := s1.toks) b.old, num_turn src_tuple 0 _, ⟨⟨.none, b.en⟩, ⟨_, b.it, rfl, rfl⟩, Nat.succ_ne_self _⟩, new_two I1, fin⟩⟩
def iNumL (K : PySem.W.Frag) (ta tk : TA) : TI := fun σ H R => ta σ H fun vs H1 => tk σ H1 fun zs H2 => ∃ a xs k0, vs = [.ref a] ∧ zs = [.int k0] ∧ -(2 ^ 63) ≤ k0 ∧ k0 < 2 ^ 63 ∧ SqL K H2 a xs ∧ R (ItNum (fun H xs => SqL K H a xs) k0) H2
theorem pi_numL {X : Cx} {e v : Expr} {ta tk : TA} {p pos tpos kp : Pos} {names : List Expr} {kk : Nat} (hg : Gl X "enumerate") (hm : X.mg "enumerate" = none) (ha : PA X [e] ta) (hk : PK X [⟨some "start", v, kp⟩] tk)
    (hs : backTo pos (starEach [e] X.env) = [(false, (backTo pos (starEach [e] X.env)).head!.2)] := by rfl) :
    PI X (.Tuple names kk tpos) (.Call (.Name "enumerate" p) [e] [⟨some "start", v, kp⟩] pos) (iNumL X.K ta tk) := ⟨fun pins s σ H R I h => by
  refine wpAny_Call_Name_kw (ld_blt I hg hm boot_enumerate ?_)
  have args := thn (ha.run pos pins s σ H _ I h) fun us s1 ⟨vs, H1, I1, r1, q1⟩ => thn (hk.run pos pins s1 σ H1 _ I1 q1) fun ws s2 ⟨zs, H2, I2, r2, q2⟩ =>
    (show wpAny (model X.prog X.w) X.A (call (.type "enumerate") us ([Str.ofString "start"].zip ws)) (fun v s1 => wpAny (model X.prog X.w) X.A (pyIter v) (PIE X pins σ (.Tuple names kk tpos) R) X.xe s1) X.xe s2 by
      obtain ⟨a, xs, k0, ev, ez, b0, b1, sq, fin⟩ := q2
      subst ev ez
      obtain rfl := Vals.ref1 r1
      obtain ⟨w1, rfl, tw, rfl⟩ := vals1 r2
      obtain ⟨its, _, pl, _⟩ := I2.list sq
      refine enum_begins_start (begins_list a its.toArray) pl.isList b0 b1 fun h' en it _ kept => wpAny_pyIter_enum en ?_
      refine ⟨_, _, _, _, H2, rfl, I2.kept (t' := s2.toks) kept, num_turn src_list k0 _, ⟨⟨.none, ?_⟩, ⟨_, it, rfl, rfl⟩, Nat.succ_ne_self _⟩, new_two I2, fin⟩
      rw [show k0 + ((0 : Nat) : Int) = k0 by simp]
      exact en)
  rw [hs] at args ⊢
  exact call_typeK (en := X.env) rfl rfl rfl args⟩
/-- a loop over it: Pv by the turn, the slots and the heap -/
theorem for_num {Sq : Hp → List V → Prop} {xs : List V} {k0 : Int} {g : TG} {tb : TS} {D : Ends} {σ : L2.St} {H : Hp} (Pv : Nat → L2.St → Hp → Prop) (h0 : Pv 0 σ H) (hq : ∀ i σ H, i ≤ xs.length → Pv i σ H → Sq H xs)
    (turn : ∀ i x T σ H, xs[i]? = some x → Pv i σ H → H T = none → g (.ref T) σ (upd H T (.tup [.int (k0 + (i : Nat)), x])) fun σ2 H2 => tb { D with nx := Pv (i + 1), ct := Pv (i + 1), bk := D.nx } σ2 H2) (done : ∀ σ H, Pv xs.length σ H → D.nx σ H) :
    ∃ W : Nat → Nat → L2.St → Hp → Prop, (∃ m, W 0 m σ H) ∧ ∀ i m σ H, W i m σ H → ((ItNum Sq k0).stop i H ∧ D.nx σ H) ∨ ((ItNum Sq k0).go i H ∧ ∃ Nx : L2.St → Hp → Prop, (∀ σ' H', Nx σ' H' → ∃ m', m' < m ∧ W (i + 1) m' σ' H') ∧
      ∀ x H', (ItNum Sq k0).yld i H x H' → g x σ H' fun σ2 H2 => tb { D with nx := Nx, ct := Nx, bk := D.nx } σ2 H2) := by
  refine ⟨fun i m σ H => i + m = xs.length ∧ Pv i σ H, ⟨xs.length, Nat.zero_add _, h0⟩, fun i m σ H ⟨em, pv⟩ => ?_⟩
  have sq := hq i σ H (by omega) pv
  match m, em with
  | 0, em =>
    obtain rfl : i = xs.length := by omega
    exact .inl ⟨⟨xs, sq, rfl⟩, done σ H pv⟩
  | m + 1, em =>
    have here := List.getElem?_eq_getElem (l := xs) (i := i) (by omega)
    refine .inr ⟨⟨xs, _, sq, here⟩, Pv (i + 1), fun σ' H' pv' => ⟨m, Nat.lt_succ_self m, by omega, pv'⟩, fun v H' y => ?_⟩
    obtain ⟨T, x, rfl, free, rfl, at_⟩ := y
    exact turn i x T σ H (at_ xs sq) pv free

/-! ### text * 0, text * 1 -/
theorem op_mul_str1 {X : Cx} : OpR X (binaryOp .Mult) (fun x y H Q => ∃ (z : Str) (n : Int) (k : Nat), x = .str z ∧ y = .int n ∧ n = (k : Int) ∧ k ≤ 1 ∧ Q (.str (if k = 0 then Str.empty else z)) H) := by
  intro pins s σ H x y u v Q I rx ry h
  obtain ⟨z, n, k, rfl, rfl, rfl, hk, q⟩ := h
  obtain ⟨t, rfl⟩ := rx
  obtain ⟨t', rfl⟩ := ry
  match k, hk with
  | 0, _ => exact PySem.P.mul_str_none (by decide) (by decide) ⟨.str Str.empty, H, I.tok _, ⟨_, rfl⟩, q⟩
  | 1, _ =>
    refine PySem.P.mul_str (by decide) (fun _ h2 => by simp at h2) (fun _ h2 => by simp at h2) ?_
    rw [if_neg (by decide), if_pos (by simp)]
    exact ⟨.str z, H, I, ⟨_, rfl⟩, q⟩
end K15

/-! sorted(xs, key=f), f(row) being row[1]: the items by rising keys, a permutation. -/
namespace K15
open PySem PySem.Spec PyProof.Rows L2

/-- a call of the key's def keeps all that stood and gives the tuple's second item -/
theorem key_call {prog : Program} {w : World} {K : PySem.W.Frag} {A : Around} {s : Shared} {f t : Addr} {name qual : Str} {params : Arguments} {body : List Stmt} {scope : Scope} {dV kV doc pm cdv ct oc : Value} {an od : Option Addr} {osl : Array (Option Value)} {items : Array Value} {n : Int} {u : Tok} {p1 p2 p3 p4 : Pos} {j : Nat}
    (KX : K.In s.heap) (hlim : s.heap.NoLimit) (ho : K.lookup f = some ⟨oc, od, .func (PySem.W.fnOf name qual params body scope dV kV doc pm an cdv ct), osl⟩) (hcd : PySem.W.codeIn K cdv qual = true) (hroom : A.depth < recursionLimit)
    (hbind : BindsTo s (PySem.W.fnOf name qual params body scope dV kV doc pm an cdv ct) ⟨[.ref t], []⟩ [("row", .ref t)])
    (hl : scope.names.lookup ("row" : Str) = some .local) (hb : body = [.Return (some (.Subscript (.Name "row" p1) (.Constant (.int 1) j p2) p3)) p4])
    (hco : scope.isCoroutine = false) (hgen : scope.isGenerator = false) (hk : scope.kind = .function)
    (ht : IsTup s.heap t items) (h2 : 1 < items.size) (hx : items[1]? = some (.int n u)) :
    wpAny (model prog w) A (call (.ref f) [.ref t]) (PySem.W.KeyPure (.int n) s) (fun _ _ => False) s := by
  subst hb
  refine wpAny_call (Att.call_fn KX hlim ho hcd hroom hbind (by simp [hl]) (fun s₁ x => ?_) hco hgen hk)
  obtain ⟨h1, tk, e1, kp⟩ := x.done
  have hn := x.toInCall.ns
  have hm : bindL (envOfC qual scope s.heap.objs.size f cdv).kindOf [(("row" : Str), Value.ref t)] (fun _ => none) ("row" : Str) = some (.ref t) := by
    have hk2 : (envOfC qual scope s.heap.objs.size f cdv).kindOf ("row" : Str) = some .local := hl
    unfold bindL
    rw [if_pos hk2]
    unfold bindL
    simp
  refine wpAny_execs_cons (wpAny_Return_some (Subscript_ (wpAny_Name (wpAny_loadName_local hk hl hn hm ?_) (by decide))))
  refine wpAny_Constant_int ?_
  have hsx : seqIndex? 1 items.size = some 1 := by
    have h3 : (1 : Int) < (items.size : Int) := by omega
    unfold seqIndex?
    simp [h3]
  have pl : IsTup s₁.heap t items := ht.keeps (by subst e1; exact kp)
  refine subscriptTail_builtinR (x := .int n u) (IsTup.typeIs (s := { s₁ with toks := s₁.toks + 1 }) pl) slot_tuple_getitem.lookup
    (getItem_tuple (j := 1) pl (by decide) (by decide) hsx (by simpa using hx) ⟨rfl, ?_⟩) (by with_unfolding_all rfl)
  subst e1
  exact ⟨h1, _, rfl, kp, .int n u⟩

/-! ### the rule -/
/-- a tracked tuple whose second item is the int n -/
def KeyIs (K : PySem.W.Frag) (H : Hp) (x : V) (n : Int) : Prop := ∃ (t : Addr) (xs : List V), x = .ref t ∧ SqT K H t xs ∧ xs[1]? = some (.int n)
theorem each_of : ∀ {xs : List V} {us : List Value}, Vals xs us → PySem.W.EachIs (fun u x => RelV x u) us xs
  | _, _, .nil => .nil
  | _, _, .cons r t => .cons r (each_of t)
theorem vals_of : ∀ {us : List Value} {xs : List V}, PySem.W.EachIs (fun u x => RelV x u) us xs → Vals xs us
  | _, _, .nil => .nil
  | _, _, .cons r t => .cons r (vals_of t)
def rSortedBy (K : PySem.W.Frag) (f : Addr) : List V → List V → Hp → VK → Prop := fun vs zs H Q => ∃ (a : Addr) (xs : List V) (key : V → Int), vs = [.ref a] ∧ zs = [.ref f] ∧ SqL K H a xs ∧ (∀ x ∈ xs, KeyIs K H x (key x)) ∧
  ∀ (ys : List V) (p : Addr), ys.Perm xs → ys.Pairwise (fun x y => key x ≤ key y) → H p = none → Q (.ref p) (upd H p (.lst ys))
theorem cr_sortedBy {X : Cx} {f : Addr} {name qual : Str} {params : Arguments} {body : List Stmt} {scope : Scope} {dV kV doc pm cdv ct oc : Value} {an od : Option Addr} {osl : Array (Option Value)} {p1 p2 p3 p4 : Pos} {j : Nat}
    (ho : X.K.lookup f = some ⟨oc, od, .func (PySem.W.fnOf name qual params body scope dV kV doc pm an cdv ct), osl⟩) (hcd : PySem.W.codeIn X.K cdv qual = true) (hr : Room 2 X.A)
    (hbind : Binds X.K (PySem.W.fnOf name qual params body scope dV kV doc pm an cdv ct) ["row"] [])
    (hl : scope.names.lookup ("row" : Str) = some .local) (hb : body = [.Return (some (.Subscript (.Name "row" p1) (.Constant (.int 1) j p2) p3)) p4])
    (hco : scope.isCoroutine = false) (hgen : scope.isGenerator = false) (hk : scope.kind = .function) :
    CallRK X (.builtin "sorted") [Str.ofString "key"] (rSortedBy X.K f) := by
  intro pins s σ H vs zs us ws Q I r rz h
  obtain ⟨a, xs, key, rfl, rfl, hs, hky, q⟩ := h
  obtain rfl := Vals.ref1 r
  obtain rfl := Vals.ref1 rz
  obtain ⟨its, rv, hlst, hz⟩ := I.list hs
  have hu := hr.un
  refine PySem.W.sorted_key_data (b := false) (fun x => .int (key x)) hlst.isList (each_of rv) (PySem.W.AllAlike.of fun _ _ => by simp [PySem.W.alike]) (PySem.W.Sortable.others fun _ => ⟨by simp, by simp⟩) hz
    (fun x _ => by
      have e : (PyData.int (key x)).depth = 0 := by simp [PyData.depth]
      rw [e]
      omega) (PyProof.Rows.ksk_s1 _ _) (fun _ => PyProof.Rows.ksk_l1 _ _) (fun _ => PyProof.Rows.ksk_t1 _ _) (fun v x rx hx h' tk kp => ?_) fun out c h' tk kp hfree hD hlen eo => ?_
  · obtain ⟨t, ys, rfl, ht, hy⟩ := hky x hx
    obtain rfl : v = Value.ref t := rx
    obtain ⟨its2, r2, pl, hz2⟩ := I.tuple ht
    obtain ⟨w, hw, tk2, rfl⟩ := r2.get hy
    have hsz : 1 < its2.toArray.size := by
      rw [List.size_toArray]
      exact (List.getElem?_eq_some_iff.mp hw).1
    have pl2 : IsTup h' t its2.toArray := pl.keeps kp
    have dp := hr.dp
    exact key_call (s := { s with heap := h', toks := tk }) (I.kIn.keeps kp) (I.nolimit.keeps kp) ho hcd (by show X.A.depth + 0 < _; omega) (hbind { s with heap := h', toks := tk } [.ref t] (I.kIn.keeps kp) rfl) hl hb hco hgen hk pl2 hsz (by simpa using hw)
  · have rv2 := vals_of eo
    have hp : (xs.mergeSort (PySem.W.dataLe false fun x => PyData.int (key x))).Perm xs := List.mergeSort_perm _ _
    have e0 := PySem.W.dataLe_int key
    have hso : (xs.mergeSort (PySem.W.dataLe false fun x => PyData.int (key x))).Pairwise fun x y => key x ≤ key y := by
      rw [e0]
      have := List.pairwise_mergeSort (le := fun a b => decide (key a ≤ key b)) (fun a b c h1 h2 => by
        have := of_decide_eq_true h1
        have := of_decide_eq_true h2
        exact decide_eq_true (by omega)) (fun a b => by
        by_cases h : key a ≤ key b
        · simp [h]
        · simp [h, show key b ≤ key a by omega]) xs
      exact this.imp fun h => of_decide_eq_true h
    exact ⟨.ref _, upd H (s.heap.objs.size + 1) (.lst _), I.laid kp (Nat.le_succ _) ⟨by rw [hp.length_eq]; exact hz, out, c, rv2, hD⟩, rfl, q _ _ hp hso (I.hok.fresh (Nat.le_succ _))⟩
end K15

/-! The text by places, the heap's words. -/
namespace K15
open PySem PySem.Spec PyProof.Rows L2 TL

/-! ### the text -/
def topS (i : Nat) : Stmt := PySem.Challenge.pw_slideroom_k15_whole_texts_both_ways.main.body.getD i (.Pass ⟨0, 0, 0, 0⟩)
abbrev sWhole : Stmt := topS 15
abbrev sWithin : Stmt := topS 16
abbrev sName : Stmt := topS 17
abbrev sNeed : Stmt := topS 22
abbrev sRow : Stmt := topS 23
abbrev sShare : Stmt := topS 24
abbrev sStart : Stmt := topS 25
abbrev sInit : Stmt := inClass (topS 26) 0
abbrev sCheck : Stmt := inClass (topS 26) 1
abbrev sBlocks : Stmt := inClass (topS 26) 2
abbrev sBRow : Stmt := topS 29
abbrev sWrite : Stmt := topS 30
abbrev sPlain : Stmt := topS 31
abbrev sNumd : Stmt := topS 32
abbrev sRBlock : Stmt := topS 33
abbrev sRead : Stmt := topS 34
abbrev sCell : Stmt := topS 36
abbrev sBox : Stmt := topS 37
abbrev sTake : Stmt := topS 38
abbrev sNames : Stmt := topS 39
abbrev sMany : Stmt := topS 40
abbrev sRows : Stmt := topS 41
abbrev sMixed : Stmt := topS 42
abbrev sRText : Stmt := topS 43
abbrev sLaw : Stmt := topS 44

theorem scWhole : FnScope ["thing"] ["thing"] (defScope sWhole) := ⟨rfl, rfl, rfl, by decide +kernel, rfl, by decide +kernel, by decide +kernel⟩
theorem scWithin : FnScope ["thing", "low", "high"] ["thing", "low", "high"] (defScope sWithin) := ⟨rfl, rfl, rfl, by decide +kernel, rfl, by decide +kernel, by decide +kernel⟩
theorem scName : FnScope ["thing", "sign"] ["thing"] (defScope sName) := ⟨rfl, rfl, rfl, by decide +kernel, rfl, by decide +kernel, by decide +kernel⟩
theorem scNeed : FnScope ["thing"] ["thing"] (defScope sNeed) := ⟨rfl, rfl, rfl, by decide +kernel, rfl, by decide +kernel, by decide +kernel⟩
theorem scRow : FnScope ["thing", "number"] ["thing"] (defScope sRow) := ⟨rfl, rfl, rfl, by decide +kernel, rfl, by decide +kernel, by decide +kernel⟩
theorem scShare : FnScope ["row", "other"] ["row", "other"] (defScope sShare) := ⟨rfl, rfl, rfl, by decide +kernel, rfl, by decide +kernel, by decide +kernel⟩
theorem scStart : FnScope ["row"] ["row"] (defScope sStart) := ⟨rfl, rfl, rfl, by decide +kernel, rfl, by decide +kernel, by decide +kernel⟩
theorem scInit : FnScope ["self", "many", "rows", "ahead", "row"] ["self", "many", "rows"] (defScope sInit) := ⟨rfl, rfl, rfl, by decide +kernel, rfl, by decide +kernel, by decide +kernel⟩
theorem scCheck : FnScope ["self", "row", "ahead", "other"] ["self", "row", "ahead"] (defScope sCheck) := ⟨rfl, rfl, rfl, by decide +kernel, rfl, by decide +kernel, by decide +kernel⟩
theorem scBlocks : FnScope ["self"] ["self"] (defScope sBlocks) := ⟨rfl, rfl, rfl, by decide +kernel, rfl, by decide +kernel, by decide +kernel⟩
theorem scBRow : FnScope ["row", "name", "start", "size", "pins", "text"] ["row"] (defScope sBRow) := ⟨rfl, rfl, rfl, by decide +kernel, rfl, by decide +kernel, by decide +kernel⟩
theorem scWrite : FnScope ["layout", "rows", "row"] ["layout"] (defScope sWrite) := ⟨rfl, rfl, rfl, by decide +kernel, rfl, by decide +kernel, by decide +kernel⟩
theorem scPlain : FnScope ["word", "sign"] ["word"] (defScope sPlain) := ⟨rfl, rfl, rfl, by decide +kernel, rfl, by decide +kernel, by decide +kernel⟩
theorem scNumd : FnScope ["words", "titles", "found", "k", "title", "number"] ["words", "titles"] (defScope sNumd) := ⟨rfl, rfl, rfl, by decide +kernel, rfl, by decide +kernel, by decide +kernel⟩
theorem scRBlock : FnScope ["text", "name", "blank", "rest", "words", "numbers"] ["text"] (defScope sRBlock) := ⟨rfl, rfl, rfl, by decide +kernel, rfl, by decide +kernel, by decide +kernel⟩
theorem scRead : FnScope ["text", "rows", "cells", "blocks", "number", "row", "block"] ["text"] (defScope sRead) := ⟨rfl, rfl, rfl, by decide +kernel, rfl, by decide +kernel, by decide +kernel⟩
theorem scCell : FnScope ["_law_script", "_law_k"] ["_law_script", "_law_k"] (defScope sCell) := ⟨rfl, rfl, rfl, by decide +kernel, rfl, by decide +kernel, by decide +kernel⟩
theorem scBox : FnScope ["_law_cell"] ["_law_cell"] (defScope sBox) := ⟨rfl, rfl, rfl, by decide +kernel, rfl, by decide +kernel, by decide +kernel⟩
theorem scTake : FnScope ["_law_box_here", "_law_many_here", "_law_number"] ["_law_box_here", "_law_many_here"] (defScope sTake) := ⟨rfl, rfl, rfl, by decide +kernel, rfl, by decide +kernel, by decide +kernel⟩
theorem scNames : FnScope ["_law_box_here", "_law_many_here", "_law_letters", "_law_k", "_law_tail", "_law_shift", "_law_names_here", "_law_name"] ["_law_box_here", "_law_many_here"] (defScope sNames) := ⟨rfl, rfl, rfl, by decide +kernel, rfl, by decide +kernel, by decide +kernel⟩
theorem scMany : FnScope ["_law_box_here"] ["_law_box_here"] (defScope sMany) := ⟨rfl, rfl, rfl, by decide +kernel, rfl, by decide +kernel, by decide +kernel⟩
theorem scRows : FnScope ["_law_box_here", "_law_many_here", "_law_most", "_law_names_here", "_law_rows_here", "_law_at", "_law_k", "_law_left", "_law_gap", "_law_wide", "_law_size", "_law_pins"] ["_law_box_here", "_law_many_here"] (defScope sRows) := ⟨rfl, rfl, rfl, by decide +kernel, rfl, by decide +kernel, by decide +kernel⟩
theorem scMixed : FnScope ["_law_box_here", "_law_some", "_law_left", "_law_found"] ["_law_box_here", "_law_some"] (defScope sMixed) := ⟨rfl, rfl, rfl, by decide +kernel, rfl, by decide +kernel, by decide +kernel⟩
theorem scRText : FnScope ["_law_row", "_law_words"] ["_law_row"] (defScope sRText) := ⟨rfl, rfl, rfl, by decide +kernel, rfl, by decide +kernel, by decide +kernel⟩
theorem scLaw : FnScope ["_law_script", "_law_k", "_law_box_here", "_law_many_here", "_law_rows_here", "_law_layout", "_law_texts", "_law_due", "_law_some", "_law_found", "_law_row"] ["_law_script"] (defScope sLaw) := ⟨rfl, rfl, rfl, by decide +kernel, rfl, by decide +kernel, by decide +kernel⟩

/-! ### heaps -/
theorem same_new {H : Hp} {p : Addr} {o : HO} (h : H p = none) : Same H (upd H p o) := fun b x e => by
  rw [upd_ne (ne_of_none e h)]
  exact e
/-- a row's tuple -/
def rowV (r : Rw) : List V := [.str r.nm, .int (r.st : Int), .int (r.sz : Int), .int (r.pn : Int)]
def RowAt (H : Hp) (x : V) (r : Rw) : Prop := ∃ t, x = .ref t ∧ H t = some (.tup (rowV r))
theorem RowAt.same {H H' : Hp} {x : V} {r : Rw} (h : RowAt H x r) (e : Same H H') : RowAt H' x r := let ⟨t, a, b⟩ := h; ⟨t, a, e _ _ b⟩
/-- the values of a list of rows -/
abbrev RowsAt (H : Hp) : List V → List Rw → Prop := Paired (RowAt H)
theorem RowsAt.same {H H' : Hp} {xs : List V} {rs : List Rw} (h : RowsAt H xs rs) (e : Same H H') : RowsAt H' xs rs := Paired.mapP h fun _ _ k => k.same e
theorem paired_get {α β : Type} {F : α → β → Prop} {xs : List α} {ys : List β} {i : Nat} {x : α} (h : Paired F xs ys) : xs[i]? = some x → ∃ y, ys[i]? = some y ∧ F x y := by
  induction h generalizing i with
  | nil => exact fun e => nomatch e
  | cons r _ ih =>
    cases i with
    | zero => exact fun e => ⟨_, rfl, Option.some.inj e ▸ r⟩
    | succ i => exact fun e => ih e
theorem paired_got {α β : Type} {F : α → β → Prop} {xs : List α} {ys : List β} {i : Nat} {y : β} (h : Paired F xs ys) : ys[i]? = some y → ∃ x, xs[i]? = some x ∧ F x y := by
  induction h generalizing i with
  | nil => exact fun e => nomatch e
  | cons r _ ih =>
    cases i with
    | zero => exact fun e => ⟨_, rfl, Option.some.inj e ▸ r⟩
    | succ i => exact fun e => ih e
theorem paired_snoc {α β : Type} {F : α → β → Prop} {x : α} {y : β} (r : F x y) : ∀ {xs : List α} {ys : List β}, Paired F xs ys → Paired F (xs ++ [x]) (ys ++ [y])
  | _, _, .nil => .cons r .nil
  | _, _, .cons q t => .cons q (paired_snoc r t)
theorem paired_take {α β : Type} {F : α → β → Prop} : ∀ {xs : List α} {ys : List β} (n : Nat), Paired F xs ys → Paired F (xs.take n) (ys.take n)
  | _, _, 0, _ => .nil
  | _, _, _ + 1, .nil => .nil
  | _, _, n + 1, .cons r t => .cons r (paired_take n t)
/-- a permutation of the values is one of the rows -/
theorem paired_perm {α β : Type} {F : α → β → Prop} {xs xs' : List α} (p : xs'.Perm xs) : ∀ {ys : List β}, Paired F xs ys → ∃ ys', ys'.Perm ys ∧ Paired F xs' ys' := by
  induction p with
  | nil => exact fun {ys} h => ⟨ys, .refl _, h⟩
  | cons x _ ih =>
    intro ys h
    cases h with
    | cons r t =>
      obtain ⟨ys', p', h'⟩ := ih t
      exact ⟨_, p'.cons _, .cons r h'⟩
  | swap x y l =>
    intro ys h
    cases h with
    | cons r t =>
      cases t with
      | cons r2 t2 => exact ⟨_, .swap _ _ _, .cons r2 (.cons r t2)⟩
  | trans p1 p2 ih1 ih2 =>
    intro ys h
    obtain ⟨ys1, q1, h1⟩ := ih2 h
    obtain ⟨ys2, q2, h2⟩ := ih1 h1
    exact ⟨ys2, q2.trans q1, h2⟩
theorem paired_append {α β : Type} {F : α → β → Prop} : ∀ {xs xs' : List α} {ys ys' : List β}, Paired F xs ys → Paired F xs' ys' → Paired F (xs ++ xs') (ys ++ ys')
  | _, _, _, _, .nil, s => s
  | _, _, _, _, .cons r t, s => .cons r (paired_append t s)
end K15

namespace K15
open PySem PySem.Spec PyProof.Rows L2 TL
theorem bT {c : Prop} [Decidable c] (h : c) : V.bl (decide c) = V.bl true := congrArg V.bl (decide_eq_true h)
theorem bF {c : Prop} [Decidable c] (h : ¬ c) : V.bl (decide c) = V.bl false := congrArg V.bl (decide_eq_false h)
theorem nT {c : Prop} [Decidable c] (h : c) : V.bl (!decide c) = V.bl false := by rw [decide_eq_true h]; rfl
theorem nF {c : Prop} [Decidable c] (h : ¬ c) : V.bl (!decide c) = V.bl true := by rw [decide_eq_false h]; rfl
section
variable {P : Program} {w : World} {K : PySem.W.Frag} {mg : Str → Option Value} {base : Heap}

/-! ### is_whole, is_within, need_many -/
def spWhole : Sp := fun vs H Q _ => ∃ i : Int, vs = [.int i] ∧ Q (.bl true) H
theorem ok_whole {f : Addr} {fd : FuncData} {k : Nat} (F : Fun K "is_whole" "is_whole" sWhole f fd) (mI : mg "isinstance" = none) (mi : mg "int" = none) (mb : mg "bool" = none) : FnOk P w K mg base CX0 (k + 1) f fd ["thing"] spWhole := by
  refine F.ok scWhole (fun vs H Q E h => ?_) (fun cdv A outer s H vs Q E hr h => ?_)
  · obtain ⟨i, rfl, _⟩ := h
    rfl
  · obtain ⟨i, rfl, q⟩ := h
    refine ⟨_, pss_one (ps_ret (pe_and (pe_callB call_isi (by rfl) mI (by decide +kernel) (pa_cons (pv 0) (pa_cons (pe_bltn (by rfl) mi (by decide +kernel) (show RelV (.ty "int") (.type "int") from rfl)) pa_nil)))
      (pe_one (pe_not (pe_callB call_isi (by rfl) mI (by decide +kernel) (pa_cons (pv 0) (pa_cons (pe_bltn (by rfl) mb (by decide +kernel) (show RelV (.ty "bool") (.type "bool") from rfl)) pa_nil))))))), ?_⟩
    refine ⟨_, rfl, _, _, _, _, true, rfl, .ty "int", .base (.int i), kit_ty (by decide +kernel), true, rfl, iteT ?_⟩
    exact ⟨_, rfl, _, _, _, _, false, rfl, .ty "bool", .base (.int i), kit_ty (by decide +kernel), false, rfl, q⟩
def spWithin : Sp := fun vs H Q _ => ∃ i lo hi : Int, vs = [.int i, .int lo, .int hi] ∧ lo ≤ i ∧ i ≤ hi ∧ Q (.bl true) H
theorem ok_within {f fW : Addr} {fd fdW : FuncData} {k : Nat} (F : Fun K "is_within" "is_within" sWithin f fd) (GW : FnOk P w K mg base CX0 (k + 1) fW fdW ["thing"] spWhole) (kW : PySem.W.keepIn K (.ref fW) = true) (bW : Binds K fdW ["thing"] []) (mW : mg "is_whole" = some (.ref fW)) :
    FnOk P w K mg base CX0 (k + 2) f fd ["thing", "low", "high"] spWithin := by
  refine F.ok scWithin (fun vs H Q E h => ?_) (fun cdv A outer s H vs Q E hr h => ?_)
  · obtain ⟨i, lo, hi, rfl, _⟩ := h
    rfl
  · obtain ⟨i, lo, hi, rfl, h1, h2, q⟩ := h
    refine ⟨_, pss_one (ps_ret (pe_and (pe_call GW hr (by rfl) mW kW bW .nil pass0 (pa_cons (pv 0) pa_nil)) (pe_one (pe_chain op_le op_le (pv 1) (pv 0) (pv 2))))), ?_⟩
    refine ⟨_, rfl, i, rfl, true, rfl, iteT ?_⟩
    refine ⟨_, rfl, _, rfl, _, _, rfl, rfl, _, rfl, ?_⟩
    rw [decide_eq_true h1]
    refine iteT ⟨_, rfl, _, _, rfl, rfl, ?_⟩
    show Q (.bl (decide (i ≤ hi))) H
    rw [decide_eq_true h2]
    exact q
def spNeed : Sp := fun vs H Q _ => ∃ i : Int, vs = [.int i] ∧ 16 ≤ i ∧ i ≤ 240 ∧ Q (.int i) H
theorem ok_need {f fW : Addr} {fd fdW : FuncData} {k : Nat} {t1 t2 : Tok} (F : Fun K "need_many" "need_many" sNeed f fd) (GW : FnOk P w K mg base CX0 (k + 2) fW fdW ["thing", "low", "high"] spWithin) (kW : PySem.W.keepIn K (.ref fW) = true) (bW : Binds K fdW ["thing", "low", "high"] []) (mW : mg "is_within" = some (.ref fW))
    (m1 : mg "LEAST_CELLS" = some (.int 16 t1)) (m2 : mg "MOST_CELLS" = some (.int 240 t2)) :
    FnOk P w K mg base CX0 (k + 3) f fd ["thing"] spNeed := by
  refine F.ok scNeed (fun vs H Q E h => ?_) (fun cdv A outer s H vs Q E hr h => ?_)
  · obtain ⟨i, rfl, _⟩ := h
    rfl
  · obtain ⟨i, rfl, h1, h2, q⟩ := h
    refine ⟨_, pss_cons (ps_if (pt_not (pt_val (pe_call GW hr (by rfl) mW kW bW .nil pass0 (pa_cons (pv 0) (pa_cons (pe_glob (v := .int 16) (by rfl) m1 ⟨_, rfl⟩) (pa_cons (pe_glob (v := .int 240) (by rfl) m2 ⟨_, rfl⟩) pa_nil)))))) (pss_one ps_never) pss_nil) (pss_one (ps_ret (pv 0))), ?_⟩
    refine ⟨_, rfl, i, 16, 240, rfl, h1, h2, true, rfl, iteF ?_⟩
    exact ⟨_, rfl, q⟩

/-! ### is_name -/
def spName : Sp := fun vs H Q _ => ∃ z : Str, vs = [.str z] ∧ NameOk z ∧ ∀ H', Same H H' → Q (.bl true) H'
theorem ok_name {f : Addr} {fd : FuncData} {k : Nat} {t1 t2 t3 : Tok} (F : Fun K "is_name" "is_name" sName f fd) (mI : mg "isinstance" = none) (mS : mg "str" = none) (mL : mg "len" = none) (mA : mg "all" = none)
    (m1 : mg "LETTERS" = some (.str lets t1)) (m2 : mg "FIGURES" = some (.str figs t2)) (m3 : mg "LONGEST_words" = some (.int 8 t3)) :
    FnOk P w K mg base CX0 (k + 1) f fd ["thing"] spName := by
  refine F.ok scName (fun vs H Q E h => ?_) (fun cdv A outer s H vs Q E hr h => ?_)
  · obtain ⟨i, rfl, _⟩ := h
    rfl
  · obtain ⟨z, rfl, hz, q⟩ := h
    refine ⟨_, pss_cons (ps_if (PW.pt (pw_or (pt_not (pt_val (pe_callB call_isi (by rfl) mI (by decide +kernel) (pa_cons (pv 0) (pa_cons (pe_bltn (by rfl) mS (by decide +kernel) (show RelV (.ty "str") (.type "str") from rfl)) pa_nil)))))
        (pw_or1 (pt_not (pt_chain op_le op_le pe_int (pe_callB call_len_str (by rfl) mL PySem.boot_len (pa_cons (pv 0) pa_nil)) (pe_glob (v := .int 8) (by rfl) m3 ⟨_, rfl⟩)))))) (pss_one (ps_ret pe_bl)) pss_nil)
      (pss_one (ps_ret (pe_and (pe_cmpR op_in_sign (pe_ix ix_str (pv 0) pe_int (fun _ _ => rfl)) (pe_glob (v := .str lets) (by rfl) m1 ⟨_, rfl⟩) (by rfl))
        (pe_one (pe_callB (cr_all rfl) (by rfl) mA (by decide +kernel) (pa_cons (pe_lc (own := [("sign", 1)]) (g := gName 1) (tt := tYes) rfl scName.nd (pi_str (pv 0)) (blkOk_by (own := [("sign", 1)]) (N := ["thing", "sign"]) (sc := defScope sName) (by decide +kernel))
          (fun _ _ _ _ _ => pg_name (i := 1) scName.nd rfl (Or.inl rfl)) (fun _ _ _ _ _ => pts_nil)
          (fun _ _ _ _ _ => pe_cmpR op_in_sign (pv 1) (pe_op op_add_str (pe_glob (v := .str lets) (by rfl) m1 ⟨_, rfl⟩) (pe_glob (v := .str figs) (by rfl) m2 ⟨_, rfl⟩)) (by rfl))) pa_nil)))))), ?_⟩
    have hl := hz.len
    have hs : z.length ≤ sizeLine := Nat.le_trans hl.2 (by decide)
    -- the test
    refine ⟨_, rfl, _, _, _, _, true, rfl, .ty "str", .base (.str z), kit_ty (by decide +kernel), true, rfl, iteF ?_⟩
    refine ⟨_, rfl, _, rfl, hs, _, _, rfl, rfl, true, bT (show (1 : Int) ≤ (z.length : Int) by omega), iteT ⟨_, _, rfl, rfl, true, bT (show (z.length : Int) ≤ 8 by omega), iteF ?_⟩⟩
    -- the first sign
    obtain ⟨c, hc, hcl⟩ := hz.hd
    have hc' : z.cps.toList[0]? = some c := by
      rw [Array.getElem?_toList]
      exact hc
    refine ⟨_, rfl, z, _, c, rfl, rfl, hs, atI_nat (j := 0) hc', c, lets, rfl, rfl, true, bT hcl, iteT ?_⟩
    -- all signs
    refine ⟨_, rfl, z, rfl, fun D hD => lc_it walk_str (fun i H' => Same H H' ∧ H' D = some (.lst ((List.replicate i true).map V.bl)) ∧ i ≤ z.cps.size) ⟨same_new hD, upd_same, Nat.zero_le _⟩ (fun _ _ _ _ => trivial) ?_ ?_⟩
    · rintro i x H1 H' hi ⟨sm, hd, _⟩ ⟨rfl, c2, hc2, rfl⟩
      refine ⟨rfl, ?_⟩
      have hm : c2 ∈ tl z := by
        have e : (tl z)[i]? = some c2 := by
          rw [Array.getElem?_toList]
          exact hc2
        exact List.mem_of_getElem? e
      refine ⟨_, rfl, lets, figs, rfl, rfl, by decide +kernel, c2, _, rfl, rfl, _, hd, ?_, fun b o e => ?_, ?_, hi⟩
      · rw [List.length_map, List.length_replicate]
        have : z.cps.size ≤ 8 := hl.2
        exact small1000 (by omega)
      · rw [upd_ne (ne_of_none e hD)]
        exact sm _ _ e
      · refine upd_same.trans ?_
        rw [List.replicate_succ', List.map_append]
        exact congrArg (fun v => some (HO.lst ((List.replicate i true).map V.bl ++ [v]))) (bT (hz.all c2 hm))
    · rintro H' ⟨sm, hd, _⟩
      refine ⟨D, _, rfl, SqL.of hd, ?_⟩
      rw [show (List.replicate z.cps.size true).all id = true by simp]
      exact q H' sm
end
end K15

namespace K15
open PySem PySem.Spec PyProof.Rows L2 TL
section
variable {P : Program} {w : World} {K : PySem.W.Frag} {mg : Str → Option Value} {base : Heap}

/-! ### is_row -/
def spRowIs : Sp := fun vs H Q _ => ∃ (t : Addr) (r : Rw), vs = [.ref t] ∧ H t = some (.tup (rowV r)) ∧ NameOk r.nm ∧ 1 ≤ r.sz ∧ ∀ H', Same H H' → Q (.bl true) H'
theorem ok_row {f fN fW : Addr} {fd fdN fdW : FuncData} {k : Nat} (F : Fun K "is_row" "is_row" sRow f fd) (GN : FnOk P w K mg base CX0 (k + 1) fN fdN ["thing"] spName) (kN : PySem.W.keepIn K (.ref fN) = true) (bN : Binds K fdN ["thing"] []) (mN : mg "is_name" = some (.ref fN))
    (GW : FnOk P w K mg base CX0 (k + 1) fW fdW ["thing"] spWhole) (kW : PySem.W.keepIn K (.ref fW) = true) (bW : Binds K fdW ["thing"] []) (mW : mg "is_whole" = some (.ref fW))
    (mI : mg "isinstance" = none) (mT : mg "tuple" = none) (mL : mg "len" = none) (mA : mg "all" = none) : FnOk P w K mg base CX0 (k + 2) f fd ["thing"] spRowIs := by
  refine F.ok scRow (fun vs H Q E h => ?_) (fun cdv A outer s H vs Q E hr h => ?_)
  · obtain ⟨t, r, rfl, _⟩ := h
    rfl
  · obtain ⟨t, r, rfl, ht, hn, hsz, q⟩ := h
    refine ⟨_, pss_cons (ps_if (PW.pt (pw_or (pt_not (pt_val (pe_callB call_isi (by rfl) mI (by decide +kernel) (pa_cons (pv 0) (pa_cons (pe_bltn (by rfl) mT (by decide +kernel) (show RelV (.ty "tuple") (.type "tuple") from rfl)) pa_nil)))))
        (pw_or (pt_cmpR op_ne (pe_callB call_len_seq (by rfl) mL PySem.boot_len (pa_cons (pv 0) pa_nil)) pe_int (nomark _))
        (pw_or1 (pt_not (pt_val (pe_call GN hr (by rfl) mN kN bN .nil pass0 (pa_cons (pe_ix ix_tup (pv 0) pe_int (fun _ _ => rfl)) pa_nil)))))))) (pss_one (ps_ret pe_bl)) pss_nil)
      (pss_cons (ps_if (pt_not (pt_val (pe_callB (cr_all rfl) (by rfl) mA (by decide +kernel) (pa_cons (pe_lc (own := [("number", 1)]) (g := gName 1) (tt := tYes) rfl scRow.nd (pi_tup (pe_slice sl_tup (pv 0) (po_some pe_int) po_none)) (blkOk_by (own := [("number", 1)]) (N := ["thing", "number"]) (sc := defScope sRow) (by decide +kernel))
          (fun _ _ _ _ _ => pg_name (i := 1) scRow.nd rfl (Or.inl rfl)) (fun _ _ _ _ _ => pts_nil)
          (fun _ _ _ _ _ => pe_call GW hr (by rfl) mW kW bW .nil pass0 (pa_cons (pv 1) pa_nil))) pa_nil)))) (pss_one (ps_ret pe_bl)) pss_nil)
      (pss_one (ps_ret (pe_and (pe_cmpR op_ge (pe_ix ix_tup (pv 0) pe_int (fun _ _ => rfl)) pe_int (nomark _))
        (pe_and (pe_cmpR op_ge (pe_ix ix_tup (pv 0) pe_int (fun _ _ => rfl)) pe_int (nomark _))
        (pe_one (pe_cmpR op_ge (pe_ix ix_tup (pv 0) pe_int (fun _ _ => rfl)) pe_int (nomark _)))))))), ?_⟩
    -- the kind, the length, the name
    refine ⟨_, rfl, _, _, _, _, true, rfl, .ty "tuple", .base (.tup ht), kit_ty (by decide +kernel), true, rfl, iteF ?_⟩
    refine ⟨_, rfl, t, rowV r, rfl, .inr (SqT.of ht), rfl, false, nT rfl, iteF ?_⟩
    refine ⟨_, rfl, t, rowV r, 0, .str r.nm, rfl, rfl, SqT.of ht, atI_nat (j := 0) rfl, r.nm, rfl, hn, fun H1 s1 => ⟨true, rfl, iteF ?_⟩⟩
    have ht1 := s1 _ _ ht
    -- the numbers
    refine ⟨_, rfl, 1, rfl, t, rowV r, rfl, SqT.of ht1, (by show ¬ (HT.sIx 4 0 (some 1) = 0 ∧ HT.sIx 4 4 none = 4); decide), fun p hp => ?_⟩
    refine ⟨p, rfl, ⟨_, SqT.of upd_same⟩, fun D hD => lc_tup (K := K) (a := p) (xs := cutV (rowV r) (some 1) none) (fun i H' => Same H H' ∧ H' p = some (.tup (cutV (rowV r) (some 1) none)) ∧ H' D = some (.lst ((List.replicate i true).map V.bl))) ?_ (fun i H' _ k => SqT.of k.2.1) ?_ ?_⟩
    · have npD : p ≠ D := by
        rintro rfl
        rw [upd_same] at hD
        cases hD
      exact ⟨(s1.trans (same_new hp)).trans (same_new hD), by rw [upd_ne npD]; exact upd_same, upd_same⟩
    · rintro i x H' hx ⟨sm, hp', hD'⟩
      have e3 : cutV (rowV r) (some 1) none = [.int (r.st : Int), .int (r.sz : Int), .int (r.pn : Int)] := rfl
      have hi : i < 3 := (List.getElem?_eq_some_iff.mp hx).1
      obtain ⟨z, rfl⟩ : ∃ z : Int, x = .int z := by
        rw [e3] at hx
        match i, hi, hx with
        | 0, _, hx => exact ⟨_, (Option.some.inj hx).symm⟩
        | 1, _, hx => exact ⟨_, (Option.some.inj hx).symm⟩
        | 2, _, hx => exact ⟨_, (Option.some.inj hx).symm⟩
      refine ⟨rfl, ?_⟩
      refine ⟨_, rfl, z, rfl, _, hD', ?_, fun b o e => ?_, ?_, ?_⟩
      · rw [List.length_map, List.length_replicate]
        exact small1000 (by omega)
      · have nb : b ≠ D := ne_of_none ((same_new hp) _ _ (s1 _ _ e)) hD
        rw [upd_ne nb]
        exact sm _ _ e
      · rw [upd_ne (ne_of hp' hD' (by intro q; cases q))]
        exact hp'
      · refine upd_same.trans ?_
        rw [List.replicate_succ', List.map_append]
        rfl
    · rintro H' ⟨sm, hp', hD'⟩
      refine ⟨D, _, rfl, SqL.of hD', ?_⟩
      rw [show (List.replicate (cutV (rowV r) (some 1) none).length true).all id = true by simp]
      refine ⟨true, rfl, iteF ?_⟩
      have ht' := sm _ _ ht
      refine ⟨_, rfl, t, rowV r, 1, _, rfl, rfl, SqT.of ht', atI_nat (j := 1) rfl, _, _, rfl, rfl, true, bT (by omega), iteT ?_⟩
      refine ⟨_, rfl, t, rowV r, 2, _, rfl, rfl, SqT.of ht', atI_nat (j := 2) rfl, _, _, rfl, rfl, true, bT (by omega), iteT ?_⟩
      refine ⟨_, rfl, t, rowV r, 3, _, rfl, rfl, SqT.of ht', atI_nat (j := 3) rfl, _, _, rfl, rfl, ?_⟩
      show Q (.bl (decide ((0 : Int) ≤ (r.pn : Int)))) H'
      rw [decide_eq_true (by omega)]
      exact q H' sm

/-! ### share_cells -/
def spShare : Sp := fun vs H Q _ => ∃ (t u : Addr) (r o : Rw), vs = [.ref t, .ref u] ∧ H t = some (.tup (rowV r)) ∧ H u = some (.tup (rowV o)) ∧ Apart r o ∧ Q (.bl false) H
theorem ok_share {f : Addr} {fd : FuncData} {k : Nat} (F : Fun K "share_cells" "share_cells" sShare f fd) : FnOk P w K mg base CX0 (k + 1) f fd ["row", "other"] spShare := by
  refine F.ok scShare (fun vs H Q E h => ?_) (fun cdv A outer s H vs Q E hr h => ?_)
  · obtain ⟨t, u, r, o, rfl, _⟩ := h
    rfl
  · obtain ⟨t, u, r, o, rfl, ht, hu, ha, q⟩ := h
    refine ⟨_, pss_one (ps_ret (pe_and (pe_cmpR op_lt (pe_ix ix_tup (pv 0) pe_int (fun _ _ => rfl)) (pe_op op_add (pe_ix ix_tup (pv 1) pe_int (fun _ _ => rfl)) (pe_ix ix_tup (pv 1) pe_int (fun _ _ => rfl))) (nomark _))
      (pe_one (pe_cmpR op_lt (pe_ix ix_tup (pv 1) pe_int (fun _ _ => rfl)) (pe_op op_add (pe_ix ix_tup (pv 0) pe_int (fun _ _ => rfl)) (pe_ix ix_tup (pv 0) pe_int (fun _ _ => rfl))) (nomark _))))), ?_⟩
    refine ⟨_, rfl, t, rowV r, 1, _, rfl, rfl, SqT.of ht, atI_nat (j := 1) rfl, _, rfl, u, rowV o, 1, _, rfl, rfl, SqT.of hu, atI_nat (j := 1) rfl, _, rfl, u, rowV o, 2, _, rfl, rfl, SqT.of hu, atI_nat (j := 2) rfl, _, _, rfl, rfl, _, _, rfl, rfl, ?_⟩
    by_cases h1 : (r.st : Int) < (o.st : Int) + (o.sz : Int)
    · refine ⟨true, bT h1, iteT ?_⟩
      refine ⟨_, rfl, u, rowV o, 1, _, rfl, rfl, SqT.of hu, atI_nat (j := 1) rfl, _, rfl, t, rowV r, 1, _, rfl, rfl, SqT.of ht, atI_nat (j := 1) rfl, _, rfl, t, rowV r, 2, _, rfl, rfl, SqT.of ht, atI_nat (j := 2) rfl, _, _, rfl, rfl, _, _, rfl, rfl, ?_⟩
      show Q (.bl (decide ((o.st : Int) < (r.st : Int) + (r.sz : Int)))) H
      have h2 : ¬ (o.st : Int) < (r.st : Int) + (r.sz : Int) := by
        rcases ha with h | h <;> omega
      rw [decide_eq_false h2]
      exact q
    · exact ⟨false, bF h1, iteF q⟩
end
end K15

namespace K15
open PySem PySem.Spec PyProof.Rows L2 TL

theorem pw_take {α : Type} {R : α → α → Prop} {l : List α} {i : Nat} {x : α} (h : l.Pairwise R) (hx : l[i]? = some x) : ∀ y ∈ l.take i, R y x := by
  obtain ⟨hi, e⟩ := List.getElem?_eq_some_iff.mp hx
  intro y hy
  obtain ⟨j, hj, e2⟩ := List.getElem_of_mem hy
  rw [List.length_take] at hj
  have := (List.pairwise_iff_getElem.mp h) j i (by omega) hi (by omega)
  rw [List.getElem_take] at e2
  rw [e2, e] at this
  exact this
theorem paired_pairwise {α β : Type} {F : α → β → Prop} {R : α → α → Prop} {S : β → β → Prop} (k : ∀ x y a b, F x a → F y b → R x y → S a b) : ∀ {xs : List α} {ys : List β}, Paired F xs ys → xs.Pairwise R → ys.Pairwise S
  | _, _, .nil, _ => .nil
  | _, _, .cons (a := x) (b := a) r t, h => by
    have h' := List.pairwise_cons.mp h
    refine List.pairwise_cons.mpr ⟨fun b hb => ?_, paired_pairwise k t h'.2⟩
    obtain ⟨j, hj, e⟩ := List.getElem_of_mem hb
    have hb2 : _ = some b := (List.getElem?_eq_getElem hj).trans (congrArg some e)
    obtain ⟨y, hy, fy⟩ := paired_got t hb2
    exact k _ _ _ _ r fy (h'.1 y (List.mem_of_getElem? hy))

/-! ### a Layout's fields -/
theorem kM : ¬ (("many" : Str) = "kept_rows") := by decide +kernel
def lf0 (many : Nat) : List (Str × V) := putF "many" (.int (many : Int)) []
def lf (many : Nat) (q : Addr) : List (Str × V) := putF "kept_rows" (.ref q) (lf0 many)
theorem lf0_many (many : Nat) : (lf0 many).lookup ("many" : Str) = some (.int (many : Int)) := by
  unfold lf0
  rw [lookup_putF, if_pos rfl]
theorem lf_many (many : Nat) (q : Addr) : (lf many q).lookup ("many" : Str) = some (.int (many : Int)) := by
  unfold lf
  rw [lookup_putF, if_neg kM, lf0_many]
theorem lf_rows (many : Nat) (q : Addr) : (lf many q).lookup ("kept_rows" : Str) = some (.ref q) := by
  unfold lf
  rw [lookup_putF, if_pos rfl]
theorem lf0_no (many : Nat) {m : Str} (h : ¬ m = "many") : (lf0 many).lookup m = none := by
  unfold lf0
  rw [lookup_putF, if_neg h]
  rfl
theorem lf_no (many : Nat) (q : Addr) {m : Str} (h : ¬ m = "many") (h2 : ¬ m = "kept_rows") : (lf many q).lookup m = none := by
  unfold lf
  rw [lookup_putF, if_neg h2, lf0_no many h]
/-- a Layout stands at p: many cells, the rows rs in their order -/
def LayAt (C : Addr) (H : Hp) (p : Addr) (many : Nat) (rs : List Rw) : Prop := ∃ (dx q : Addr) (ys : List V), H p = some (.ins C dx (lf many q)) ∧ H q = some (.lst ys) ∧ RowsAt H ys rs
theorem LayAt.same {C : Addr} {H H' : Hp} {p : Addr} {many : Nat} {rs : List Rw} (h : LayAt C H p many rs) (e : Same H H') : LayAt C H' p many rs :=
  let ⟨dx, q, ys, a, b, c⟩ := h
  ⟨dx, q, ys, e _ _ a, e _ _ b, c.same e⟩

section
variable {P : Program} {w : World} {K : PySem.W.Frag} {mg : Str → Option Value} {base : Heap}
/-! ### check_row -/
theorem names_free {H : Hp} {x : Str} : ∀ {xs : List V} {rs : List Rw}, RowsAt H xs rs → x ∉ rs.map Rw.nm → inV (.str x) (rs.map fun r => V.str r.nm) = false
  | _, _, .nil, _ => rfl
  | _, _, .cons (b := r) (l₂ := rs) _ t, h => by
    have h1 : x ≠ r.nm := fun e => h (by rw [e]; simp)
    have ih := names_free t fun m => h (List.mem_cons_of_mem _ m)
    show (eqV (.str r.nm) (.str x) || inV (.str x) (rs.map fun r => V.str r.nm)) = false
    rw [ih, Bool.or_false]
    show decide (r.nm = x) = false
    exact decide_eq_false fun e => h1 e.symm
def spCheck (C : Addr) : Sp := fun vs H Q _ => ∃ (p t l dx : Addr) (many : Nat) (fs : List (Str × V)) (r : Rw) (xs : List V) (rs : List Rw), vs = [.ref p, .ref t, .ref l] ∧ H p = some (.ins C dx fs) ∧ fs.lookup ("many" : Str) = some (V.int (many : Int)) ∧
  H t = some (.tup (rowV r)) ∧ H l = some (.lst xs) ∧ RowsAt H xs rs ∧ RowOk many r ∧ r.nm ∉ rs.map Rw.nm ∧ (∀ o ∈ rs, Apart r o) ∧ rs.length ≤ 40 ∧ ∀ H', Same H H' → Q .non H'
theorem ok_check {f C fR fS : Addr} {fd fdR fdS : FuncData} {k : Nat} (F : Fun K "check_row" "Layout.check_row" sCheck f fd) (cl : Cls K C) (nM : NoAttr K C "many")
    (GR : FnOk P w K mg base CX0 (k + 2) fR fdR ["thing"] spRowIs) (kR : PySem.W.keepIn K (.ref fR) = true) (bR : Binds K fdR ["thing"] []) (mR : mg "is_row" = some (.ref fR))
    (GS : FnOk P w K mg base CX0 (k + 2) fS fdS ["row", "other"] spShare) (kS : PySem.W.keepIn K (.ref fS) = true) (bS : Binds K fdS ["row", "other"] []) (mS : mg "share_cells" = some (.ref fS)) : FnOk P w K mg base CX0 (k + 3) f fd ["self", "row", "ahead"] (spCheck C) := by
  refine F.ok scCheck (fun vs H Q E h => ?_) (fun cdv A outer s H vs Q E hr h => ?_)
  · obtain ⟨p, t, l, dx, many, fs, r, xs, rs, rfl, _⟩ := h
    rfl
  · obtain ⟨p, t, l, dx, many, fs, r, xs, rs, rfl, hp, hm, ht, hl, hx, ok, hnm, hap, hfew, q⟩ := h
    refine ⟨_, pss_cons (ps_if (pt_not (pt_val (pe_call GR hr (by rfl) mR kR bR .nil pass0 (pa_cons (pv 1) pa_nil)))) (pss_one ps_never) pss_nil)
      (pss_cons (ps_if (pt_cmpR op_gt (pe_op op_add (pe_ix ix_tup (pv 1) pe_int (fun _ _ => rfl)) (pe_ix ix_tup (pv 1) pe_int (fun _ _ => rfl))) (pe_fld (pv 0) rfl) (nomark _)) (pss_one ps_never) pss_nil)
      (pss_cons (ps_if (pt_cmpR op_in_seq (pe_ix ix_tup (pv 1) pe_int (fun _ _ => rfl)) (pe_lc (own := [("other", 3)]) (g := gName 3) (tt := tYes) rfl scCheck.nd (pi_list (pv 2)) (blkOk_by (own := [("other", 3)]) (N := ["self", "row", "ahead", "other"]) (sc := defScope sCheck) (by decide +kernel))
          (fun _ _ _ _ _ => pg_name (i := 3) scCheck.nd rfl (Or.inl rfl)) (fun _ _ _ _ _ => pts_nil)
          (fun _ _ _ _ _ => pe_ix (r := rIxT K) ix_tup (pv 3) pe_int (fun _ _ => rfl))) (by rfl)) (pss_one ps_never) pss_nil)
      (pss_one (ps_for PassesOwn.never rfl (pi_list (pv 2)) (pg_name (i := 3) scCheck.nd rfl (Or.inl rfl))
        (pss_one (ps_if (pt_val (pe_call GS hr (by rfl) mS kS bS .nil pass0 (pa_cons (pv 1) (pa_cons (pv 3) pa_nil)))) (pss_one ps_never) pss_nil)))))), ?_⟩
    -- is_row
    refine ⟨_, rfl, t, r, rfl, ht, ok.nm, ok.sz, fun H1 s1 => ⟨true, rfl, iteF ?_⟩⟩
    have ht1 := s1 _ _ ht
    have hp1 := s1 _ _ hp
    -- its end
    have hen := ok.en
    refine ⟨_, rfl, t, rowV r, 1, _, rfl, rfl, SqT.of ht1, atI_nat (j := 1) rfl, _, rfl, t, rowV r, 2, _, rfl, rfl, SqT.of ht1, atI_nat (j := 2) rfl, _, _, rfl, rfl, _, rfl, p, C, dx, fs, _, rfl, hp1, cl, nM, hm, _, _, rfl, rfl, false, bF (by omega), iteF ?_⟩
    -- its name
    refine ⟨_, rfl, t, rowV r, 0, _, rfl, rfl, SqT.of ht1, atI_nat (j := 0) rfl, ?_⟩
    have hl1 := s1 _ _ hl
    have hx1 := hx.same s1
    refine ⟨_, rfl, l, rfl, ⟨_, SqL.of hl1⟩, fun D hD => lc_list (K := K) (a := l) (xs := xs) (fun i H' => Same H1 H' ∧ H' D = some (.lst ((rs.take i).map fun r => V.str r.nm))) ⟨same_new hD, upd_same⟩ (fun i H' _ k => SqL.of (k.1 _ _ hl1)) ?_ ?_⟩
    · rintro i x H' hi ⟨sm, hd⟩
      obtain ⟨o, ho, t2, rfl, ht2⟩ := paired_get hx1 hi
      refine ⟨rfl, ?_⟩
      refine ⟨_, rfl, t2, rowV o, 0, _, rfl, rfl, SqT.of (sm _ _ ht2), atI_nat (j := 0) rfl, _, hd, ?_, fun b u e => ?_, ?_⟩
      · rw [List.length_map, List.length_take]
        exact small1000 (by omega)
      · rw [upd_ne (ne_of_none e hD)]
        exact sm _ _ e
      · refine upd_same.trans ?_
        rw [List.take_add_one, ho, List.map_append]
        rfl
    · rintro H2 ⟨s2, hd⟩
      have el : rs.take xs.length = rs := List.take_of_length_le (by rw [Paired.length hx]; exact Nat.le_refl _)
      rw [el] at hd
      refine ⟨D, _, rfl, .inl (SqL.of hd), rfl, ?_, ?_⟩
      · rw [List.all_eq_true]
        intro v hv
        obtain ⟨o, _, rfl⟩ := List.mem_map.mp hv
        rfl
      refine ⟨false, congrArg V.bl (names_free hx hnm), iteF ?_⟩
      -- the others
      have s12 := s1.trans s2
      refine ⟨_, rfl, l, rfl, ⟨_, SqL.of (s12 _ _ hl)⟩, for_list (K := K) (a := l) (xs := xs) (fun i σ H' => ∃ v, σ = [some (.ref p), some (.ref t), some (.ref l), v] ∧ Same H H') ⟨none, rfl, s12⟩ (fun i σ H' _ k => by
        obtain ⟨v, _, sm⟩ := k
        exact SqL.of (sm _ _ hl)) ?_ ?_⟩
      · rintro i x σ H' hi ⟨v, rfl, sm⟩
        obtain ⟨o, ho, t2, rfl, ht2⟩ := paired_get hx hi
        refine ⟨_, rfl, _, rfl, t, t2, r, o, rfl, sm _ _ ht, sm _ _ ht2, hap o (List.mem_of_getElem? ho), false, rfl, iteF ?_⟩
        exact ⟨_, rfl, sm⟩
      · rintro σ H' ⟨v, rfl, sm⟩
        exact q H' sm
/-! ### blocks -/
def spBlocks (C : Addr) : Sp := fun vs H Q _ => ∃ (p dx q : Addr) (many : Nat) (ys : List V), vs = [.ref p] ∧ H p = some (.ins C dx (lf many q)) ∧ H q = some (.lst ys) ∧ ∀ (l : Addr), H l = none → Q (.ref l) (upd H l (.lst ys))
theorem ok_blocks {f C : Addr} {fd : FuncData} {k : Nat} (F : Fun K "blocks" "Layout.blocks" sBlocks f fd) (cl : Cls K C) (nR : NoAttr K C "kept_rows") (mL : mg "list" = none) : FnOk P w K mg base CX0 (k + 1) f fd ["self"] (spBlocks C) := by
  refine F.ok scBlocks (fun vs H Q E h => ?_) (fun cdv A outer s H vs Q E hr h => ?_)
  · obtain ⟨p, dx, q, many, ys, rfl, _⟩ := h
    rfl
  · obtain ⟨p, dx, q, many, ys, rfl, hp, hq, z⟩ := h
    refine ⟨_, pss_one (ps_ret (pe_callTy call_list_of (by rfl) mL (by decide +kernel) (pa_cons (pe_fld (pv 0) rfl) pa_nil))), ?_⟩
    exact ⟨_, rfl, p, C, dx, _, _, rfl, hp, cl, nR, lf_rows _ _, q, _, rfl, .inl (SqL.of hq), fun l hl => z l hl⟩
end
end K15

namespace K15
open PySem PySem.Spec PyProof.Rows L2 TL

/-- a row's start, read off the heap -/
def keyOf (H : Hp) : V → Int
  | .ref t => match H t with
    | some (.tup (_ :: .int n :: _)) => n
    | _ => 0
  | _ => 0
theorem keyOf_row {H : Hp} {x : V} {r : Rw} (h : RowAt H x r) : keyOf H x = (r.st : Int) := by
  obtain ⟨t, rfl, e⟩ := h
  show (match H t with | some (.tup (_ :: .int n :: _)) => n | _ => 0) = _
  rw [e]
  rfl
section
variable {P : Program} {w : World} {K : PySem.W.Frag} {mg : Str → Option Value} {base : Heap}
/-! ### Layout.__init__ -/
def spInit (C : Addr) : Sp := fun vs H Q _ => ∃ (p l dx : Addr) (many : Nat) (xs : List V) (ps rs : List Rw), vs = [.ref p, .int (many : Int), .ref l] ∧ H p = some (.ins C dx []) ∧ H l = some (.lst xs) ∧ RowsAt H xs ps ∧ ps.Perm rs ∧ Good many rs ∧
  ∀ H', LayAt C H' p many rs → (∀ b o, H b = some o → b ≠ p → H' b = some o) → Q .non H'
theorem ok_init {f C fN fK fS : Addr} {fd fdN fdK fdS : FuncData} {k : Nat} {t1 : Tok} (F : Fun K "__init__" "Layout.__init__" sInit f fd) (cl : Cls K C) (nM : NoAttr K C "many") (nR : NoAttr K C "kept_rows")
    (GN : FnOk P w K mg base CX0 (k + 3) fN fdN ["thing"] spNeed) (kN : PySem.W.keepIn K (.ref fN) = true) (bN : Binds K fdN ["thing"] []) (mN : mg "need_many" = some (.ref fN))
    (GK : FnOk P w K mg base CX0 (k + 3) fK fdK ["self", "row", "ahead"] (spCheck C)) (bK : Binds K fdK ["self", "row", "ahead"] []) (mK : Meth K C "check_row" fK)
    (FS : Fun K "start_of" "start_of" sStart fS fdS) (bS : Binds K fdS ["row"] []) (mS : mg "start_of" = some (.ref fS))
    (mI : mg "isinstance" = none) (mT : mg "list" = none) (mL : mg "len" = none) (mO : mg "sorted" = none) (m40 : mg "MOST_BLOCKS" = some (.int 40 t1)) : FnOk P w K mg base CX0 (k + 4) f fd ["self", "many", "rows"] (spInit C) := by
  refine F.ok scInit (fun vs H Q E h => ?_) (fun cdv A outer s H vs Q E hr h => ?_)
  · obtain ⟨p, l, dx, many, xs, ps, rs, rfl, _⟩ := h
    rfl
  · obtain ⟨p, l, dx, many, xs, ps, rs, rfl, hp, hl, hx, pm, g, q⟩ := h
    obtain ⟨oc, od, kV, doc, pmS, an, cdS, ct, osl, rfl, lkS, cdSk⟩ := FS.ex
    refine ⟨_, pss_cons (ps_fld (pv 0) (pe_call GN hr (by rfl) mN kN bN .nil pass0 (pa_cons (pv 1) pa_nil)) rfl)
      (pss_cons (ps_if (pt_not (pt_val (pe_callB call_isi (by rfl) mI (by decide +kernel) (pa_cons (pv 2) (pa_cons (pe_bltn (by rfl) mT (by decide +kernel) (show RelV (.ty "list") (.type "list") from rfl)) pa_nil))))) (pss_one ps_never) pss_nil)
      (pss_cons (ps_if (pt_cmpR op_gt (pe_callB call_len_seq (by rfl) mL PySem.boot_len (pa_cons (pv 2) pa_nil)) (pe_glob (v := .int 40) (by rfl) m40 ⟨_, rfl⟩) (nomark _)) (pss_one ps_never) pss_nil)
      (pss_cons (ps_set (i := 3) scInit.nd rfl (.inl rfl) (pe_lst pa_nil))
      (pss_cons (ps_for PassesOwn.never rfl (pi_list (pv 2)) (pg_name (i := 4) scInit.nd rfl (Or.inl rfl))
        (pss_cons (ps_expr (pe_meth (pv 0) cl mK GK hr bK .nil pass0 (pa_cons (pv 4) (pa_cons (pv 3) pa_nil))))
        (pss_one (ps_expr (pe_bm PySem.F.plainAttrs_list PySem.F.slot_list_append PySem.F.type_list_append mt_append (pv 3) (pa_cons (pv 4) pa_nil))))))
      (pss_one (ps_fld (pv 0) (pe_callBK (cr_sortedBy lkS cdSk (hr.mono (by omega)) bS (by rfl) rfl rfl rfl rfl) (by rfl) mO (by decide +kernel) (pa_cons (pv 3) pa_nil) (pk_cons (pe_glob (v := .ref fS) (by rfl) mS rfl) pk_nil)) rfl)))))), ?_⟩
    have hlo := g.lo
    have hhi := g.hi
    have hlx : xs.length = ps.length := Paired.length hx
    have hfew : ps.length ≤ 40 := g.perm_few pm
    have npl : l ≠ p := ne_of hl hp (by intro z; cases z)
    -- self.many
    refine ⟨_, rfl, (many : Int), rfl, by omega, by omega, _, rfl, p, C, dx, [], rfl, hp, cl, nM, (by show 0 < 1000; decide), ?_⟩
    have hl1 : (upd H p (.ins C dx (lf0 many))) l = some (.lst xs) := by
      rw [upd_ne npl]
      exact hl
    -- its kind, its length
    refine ⟨_, rfl, _, _, _, _, true, rfl, .ty "list", .base (.lst hl1), kit_ty (by decide +kernel), true, rfl, iteF ?_⟩
    refine ⟨_, rfl, l, xs, rfl, .inl (SqL.of hl1), _, _, rfl, rfl, false, bF (by omega), iteF ?_⟩
    -- ahead = []
    refine ⟨Nat.zero_le _, fun a ha => ?_⟩
    have npa : p ≠ a := by
      rintro rfl
      rw [upd_same] at ha
      cases ha
    have ha0 : H a = none := by
      rw [upd_ne npa.symm] at ha
      exact ha
    -- the loop
    refine ⟨_, rfl, l, rfl, ⟨_, SqL.of ((same_new ha) _ _ hl1)⟩, for_list (K := K) (a := l) (xs := xs)
      (fun i σ H' => ∃ v, σ = [some (.ref p), some (.int (many : Int)), some (.ref l), some (.ref a), v] ∧ (∀ b o, H b = some o → b ≠ p → H' b = some o) ∧ H' p = some (.ins C dx (lf0 many)) ∧ H' a = some (.lst (xs.take i)))
      ⟨none, rfl, fun b o e nb => by rw [upd_ne (ne_of_none e ha0), upd_ne nb]; exact e, by rw [upd_ne npa]; exact upd_same, upd_same⟩ (fun i σ H' _ k => ?_) ?_ ?_⟩
    · obtain ⟨v, _, kp, _, _⟩ := k
      exact SqL.of (kp _ _ hl npl)
    · rintro i x σ H' hi ⟨v, rfl, kp, hp', ha'⟩
      obtain ⟨r, hri, t, rfl, ht⟩ := paired_get hx hi
      have hil : i < xs.length := (List.getElem?_eq_some_iff.mp hi).1
      have ntp : t ≠ p := ne_of ht hp (by intro z; cases z)
      have kpr : ∀ (x : V) (r : Rw), RowAt H x r → RowAt H' x r := fun x r ⟨t, e1, e2⟩ => ⟨t, e1, kp _ _ e2 (ne_of e2 hp (by intro z; cases z))⟩
      refine ⟨_, rfl, p, dx, _, rfl, hp', lf0_no many (by decide +kernel), _, rfl, _, rfl, ?_⟩
      refine ⟨p, t, a, dx, many, _, r, xs.take i, ps.take i, rfl, hp', lf0_many many, kp _ _ ht ntp, ha', paired_take i (Paired.mapP hx kpr), g.perm_row pm r (List.mem_of_getElem? hri), ?_, ?_, ?_, fun H2 s2 => ?_⟩
      · intro hm
        have h1 := pw_take (i := i) (x := r.nm) (show (ps.map Rw.nm).Pairwise (· ≠ ·) from g.perm_nd pm) (by rw [List.getElem?_map, hri]; rfl)
        rw [← List.map_take] at h1
        exact h1 _ hm rfl
      · exact fun o ho => (pw_take (g.perm_apart pm) hri o ho).symm
      · rw [List.length_take]
        omega
      · refine ⟨_, rfl, .inl ⟨rfl, _, SqL.of (s2 _ _ ha')⟩, _, rfl, a, _, _, rfl, rfl, s2 _ _ ha', ?_, ?_⟩
        · rw [List.length_take]
          exact small1000 (by omega)
        · refine ⟨_, rfl, fun b o e nb => ?_, ?_, ?_⟩
          · rw [upd_ne (ne_of_none e ha0)]
            exact s2 _ _ (kp _ _ e nb)
          · rw [upd_ne npa]
            exact s2 _ _ hp'
          · refine upd_same.trans ?_
            rw [List.take_add_one, hi]
            rfl
    · rintro σ H' ⟨v, rfl, kp, hp', ha'⟩
      rw [List.take_of_length_le (Nat.le_refl _)] at ha'
      have hx' : RowsAt H' xs ps := Paired.mapP hx fun x r ⟨t, e1, e2⟩ => ⟨t, e1, kp _ _ e2 (ne_of e2 hp (by intro z; cases z))⟩
      -- self.kept_rows
      refine ⟨_, rfl, a, xs, keyOf H', rfl, rfl, SqL.of ha', fun x hm => ?_, fun ys b hpm hso hb => ?_⟩
      · obtain ⟨j, hj, e⟩ := List.getElem_of_mem hm
        obtain ⟨r, _, hr2⟩ := paired_get hx' ((List.getElem?_eq_getElem hj).trans (congrArg some e))
        rw [keyOf_row hr2]
        obtain ⟨t, rfl, ht⟩ := hr2
        exact ⟨t, rowV r, rfl, SqT.of ht, rfl⟩
      · obtain ⟨rs', pm', hy⟩ := paired_perm hpm hx'
        have hso' : rs'.Pairwise fun a b => a.st ≤ b.st := paired_pairwise (fun x y a b ra rb h => by
          rw [keyOf_row ra, keyOf_row rb] at h
          omega) hy hso
        have er : rs' = rs := sorted_one (pm'.trans pm) hso' g.starts
        subst er
        have npb : p ≠ b := ne_of_none hp' hb
        refine ⟨_, rfl, p, C, dx, _, rfl, (by rw [upd_ne npb]; exact hp'), cl, nR, (by show (lf0 many).length < 1000; exact Nat.lt_of_le_of_lt (Nat.le_refl 1) (by decide)), ?_⟩
        refine q _ ⟨dx, b, ys, upd_same, by rw [upd_ne npb.symm]; exact upd_same, Paired.mapP hy fun x r ⟨t, e1, e2⟩ => ⟨t, e1, ?_⟩⟩ fun c o e nc => ?_
        · rw [upd_ne (ne_of e2 hp' (by intro z; cases z)), upd_ne (ne_of_none e2 hb)]
          exact e2
        · rw [upd_ne nc, upd_ne (ne_of_none (kp _ _ e nc) hb)]
          exact kp _ _ e nc
end
end K15

namespace K15
open PySem PySem.Spec PyProof.Rows L2 TL

theorem app_len (x y : Str) : (x ++ y).length = x.length + y.length := by
  rw [len_tl, tl_append, List.length_append, ← len_tl, ← len_tl]
theorem szl {n : Nat} (h : n ≤ 1000) : n ≤ sizeLine := Nat.le_trans h (by decide)
theorem emp_len : Str.empty.length = 0 := rfl
theorem log_small {n : Nat} (h : n ≤ 1000) : ((n : Nat) : Int).natAbs.log2 < 1920 :=
  Nat.lt_of_lt_of_le (PySem.Flt.log2_lt_of (k := 10) (by decide) (by rw [Int.natAbs_natCast]; omega)) (by decide)
theorem num_len4 {n : Nat} (h : n ≤ 1000) : (num n).length ≤ 4 := num_len (by decide) (by omega)
section
variable {P : Program} {w : World} {K : PySem.W.Frag} {mg : Str → Option Value} {base : Heap}
/-! ### block_row -/
def spBRow : Sp := fun vs H Q _ => ∃ (t : Addr) (r : Rw) (many : Nat), vs = [.ref t] ∧ H t = some (.tup (rowV r)) ∧ RowOk many r ∧ many ≤ 240 ∧ Q (.str (rowText r)) H
theorem ok_brow {f : Addr} {fd : FuncData} {k : Nat} (F : Fun K "block_row" "block_row" sBRow f fd) : FnOk P w K mg base CX0 (k + 1) f fd ["row"] spBRow := by
  refine F.ok scBRow (fun vs H Q E h => ?_) (fun cdv A outer s H vs Q E hr h => ?_)
  · obtain ⟨t, r, many, rfl, _⟩ := h
    rfl
  · obtain ⟨t, r, many, rfl, ht, ok, hm, q⟩ := h
    refine ⟨_, pss_cons (ps_asg (pv 0) (pg_tup (by rfl) (pgs_cons (pg_name (i := 1) scBRow.nd rfl (.inl rfl)) (pgs_cons (pg_name (i := 2) scBRow.nd rfl (.inl rfl)) (pgs_cons (pg_name (i := 3) scBRow.nd rfl (.inl rfl)) (pgs_cons (pg_name (i := 4) scBRow.nd rfl (.inl rfl)) pgs_nil))))))
      (pss_cons (ps_set (i := 5) scBRow.nd rfl (.inl rfl) (pe_joined (.cons (pe_fmt (pv 1)) (.cons pe_str (.cons (pe_fmt (pv 2)) (.cons pe_str (.cons (pe_fmt (pv 3)) .nil)))))))
      (pss_cons (ps_if (pt_cmpR op_gt (pv 4) pe_int (nomark _)) (pss_one (ps_set (i := 5) scBRow.nd rfl (.inl rfl) (pe_op op_add_str (pv 5) (pe_joined (.cons pe_str (.cons (pe_fmt (pv 4)) .nil)))))) pss_nil)
      (pss_one (ps_ret (pv 5))))), ?_⟩
    have h1 := ok.nm.len.2
    have h2 := ok.en
    have h3 := ok.pn
    have n1 : (num r.st).length ≤ 4 := num_len4 (by omega)
    have n2 : (num r.sz).length ≤ 4 := num_len4 (by omega)
    have n3 : (num r.pn).length ≤ 4 := num_len4 h3
    have a1 : ((" at " : Str)).length = 4 := by decide +kernel
    have a2 : ((" size " : Str)).length = 6 := by decide +kernel
    have a3 : ((" pins " : Str)).length = 6 := by decide +kernel
    refine ⟨_, rfl, t, rowV r, rfl, SqT.of ht, rfl, _, _, rfl, _, _, rfl, _, _, rfl, _, _, rfl, rfl, ?_⟩
    -- text
    refine ⟨_, rfl, .inl ⟨r.nm, rfl, szl (by omega), r.nm, rfl, szl (by rw [app_len, emp_len]; omega), _, rfl, szl (by rw [app_len, app_len, emp_len, a1]; omega), ?_⟩⟩
    refine ⟨_, rfl, .inr ⟨(r.st : Int), rfl, log_small (by omega), num r.st, rfl, szl (by rw [app_len, app_len, app_len, emp_len, a1]; omega), _, rfl, szl (by rw [app_len, app_len, app_len, app_len, emp_len, a1, a2]; omega), ?_⟩⟩
    refine ⟨_, rfl, .inr ⟨(r.sz : Int), rfl, log_small (by omega), num r.sz, rfl, szl (by rw [app_len, app_len, app_len, app_len, app_len, emp_len, a1, a2]; omega), ?_⟩⟩
    -- pins
    refine ⟨_, rfl, _, _, rfl, rfl, _, rfl, ?_⟩
    by_cases hp : r.pn = 0
    · rw [decide_eq_false (show ¬ (0 : Int) < (r.pn : Int) by omega)]
      refine iteF ⟨_, rfl, ?_⟩
      show Q (.str (Str.empty ++ r.nm ++ (" at " : Str) ++ num r.st ++ (" size " : Str) ++ num r.sz)) H
      rw [wrote_row0 hp]
      exact q
    · rw [decide_eq_true (show (0 : Int) < (r.pn : Int) by omega)]
      refine iteT ⟨_, rfl, _, rfl, szl (by rw [app_len, emp_len, a3]; omega), _, rfl, .inr ⟨(r.pn : Int), rfl, log_small h3, num r.pn, rfl, szl (by rw [app_len, app_len, emp_len, a3]; omega), _, _, rfl, rfl, szl (by rw [app_len, app_len, app_len, app_len, app_len, app_len, app_len, emp_len, a1, a2, a3]; omega), _, rfl, ?_⟩⟩
      show Q (.str ((Str.empty ++ r.nm ++ (" at " : Str) ++ num r.st ++ (" size " : Str) ++ num r.sz) ++ (Str.empty ++ (" pins " : Str) ++ num r.pn))) H
      rw [wrote_rowP hp]
      exact q
/-! ### write_layout -/
def spWrite (C : Addr) : Sp := fun vs H Q _ => ∃ (p : Addr) (many : Nat) (rs : List Rw), vs = [.ref p] ∧ LayAt C H p many rs ∧ Good many rs ∧ ∀ H', Same H H' → Q (.str (whole many rs)) H'
theorem ok_write {f C fB fR : Addr} {fd fdB fdR : FuncData} {k : Nat} (F : Fun K "write_layout" "write_layout" sWrite f fd) (cl : Cls K C) (nM : NoAttr K C "many")
    (GB : FnOk P w K mg base CX0 (k + 1) fB fdB ["self"] (spBlocks C)) (bB : Binds K fdB ["self"] []) (mB : Meth K C "blocks" fB)
    (GR : FnOk P w K mg base CX0 (k + 1) fR fdR ["row"] spBRow) (kR : PySem.W.keepIn K (.ref fR) = true) (bR : Binds K fdR ["row"] []) (mR : mg "block_row" = some (.ref fR)) :
    FnOk P w K mg base CX0 (k + 2) f fd ["layout"] (spWrite C) := by
  refine F.ok scWrite (fun vs H Q E h => ?_) (fun cdv A outer s H vs Q E hr h => ?_)
  · obtain ⟨p, many, rs, rfl, _⟩ := h
    rfl
  · obtain ⟨p, many, rs, rfl, ⟨dx, q0, ys, hp, hq, hy⟩, g, q⟩ := h
    refine ⟨_, pss_cons (ps_set (i := 1) scWrite.nd rfl (.inl rfl) (pe_lst (pa_cons (pe_joined (.cons pe_str (.cons (pe_fmt (pe_fld (pv 0) rfl)) .nil))) pa_nil)))
      (pss_cons (ps_for PassesOwn.never rfl (pi_list (pe_meth0 (pv 0) cl mB GB hr bB .nil pass0)) (pg_name (i := 2) scWrite.nd rfl (Or.inl rfl))
        (pss_one (ps_expr (pe_bm PySem.F.plainAttrs_list PySem.F.slot_list_append PySem.F.type_list_append mt_append (pv 1) (pa_cons (pe_call GR hr (by rfl) mR kR bR .nil pass0 (pa_cons (pv 2) pa_nil)) pa_nil)))))
      (pss_one (ps_ret (pe_join pe_str (pv 1))))), ?_⟩
    have hlo := g.lo
    have hhi := g.hi
    have hly : ys.length = rs.length := Paired.length hy
    have hfew := g.few
    have n1 : (num many).length ≤ 4 := num_len4 (by omega)
    have a1 : (("cells " : Str)).length = 6 := by decide +kernel
    -- rows
    refine ⟨_, rfl, szl (by rw [app_len, emp_len, a1]; omega), _, rfl, p, C, dx, _, _, rfl, hp, cl, nM, lf_many _ _, .inr ⟨(many : Int), rfl, log_small (by omega), num many, rfl, szl (by rw [app_len, app_len, emp_len, a1]; omega), (by show 1 ≤ sizeLine; decide), fun a ha => ?_⟩⟩
    have s1 : Same H (upd H a (.lst [.str (Str.empty ++ ("cells " : Str) ++ num many)])) := same_new ha
    -- for row in layout.blocks()
    refine ⟨_, rfl, p, dx, _, rfl, s1 _ _ hp, lf_no _ _ (by decide +kernel) (by decide +kernel), p, dx, q0, many, ys, rfl, s1 _ _ hp, s1 _ _ hq, fun l hl => ?_⟩
    have nal : a ≠ l := by
      rintro rfl
      rw [upd_same] at hl
      cases hl
    refine ⟨l, rfl, ⟨_, SqL.of upd_same⟩, for_list (K := K) (a := l) (xs := ys) (fun i σ H' => ∃ v, σ = [some (.ref p), some (.ref a), v] ∧ Same H H' ∧ H' l = some (.lst ys) ∧ H' a = some (.lst ((headText many :: (rs.take i).map rowText).map V.str)))
      ⟨none, rfl, s1.trans (same_new hl), upd_same, ?_⟩ (fun i σ H' _ k => ?_) ?_ ?_⟩
    · rw [upd_ne nal, upd_same, wrote_head]
      rfl
    · obtain ⟨v, _, _, hl', _⟩ := k
      exact SqL.of hl'
    · rintro i x σ H' hi ⟨v, rfl, sm, hl', ha'⟩
      obtain ⟨r, hri, t, rfl, ht⟩ := paired_get hy hi
      have hil : i < ys.length := (List.getElem?_eq_some_iff.mp hi).1
      refine ⟨_, rfl, .inl ⟨rfl, _, SqL.of ha'⟩, _, rfl, t, r, many, rfl, sm _ _ ht, g.row r (List.mem_of_getElem? hri), hhi, a, _, _, rfl, rfl, ha', ?_, ?_⟩
      · rw [List.length_map, List.length_cons, List.length_map, List.length_take]
        exact small1000 (by omega)
      · refine ⟨_, rfl, fun b o e => ?_, ?_, ?_⟩
        · rw [upd_ne (ne_of_none e ha)]
          exact sm _ _ e
        · rw [upd_ne nal.symm]
          exact hl'
        · refine upd_same.trans ?_
          rw [List.take_add_one, hri, List.map_append]
          show some (HO.lst (_ ++ [V.str (rowText r)])) = some (HO.lst ((headText many :: ((rs.take i).map rowText ++ [rowText r])).map V.str))
          refine congrArg (fun z => some (HO.lst z)) ?_
          simp only [List.map_cons, List.map_append, List.map_nil, List.cons_append]
    · rintro σ H' ⟨v, rfl, sm, hl', ha'⟩
      rw [List.take_of_length_le (by omega)] at ha'
      refine ⟨⟨_, rfl⟩, _, rfl, nl, a, headText many :: rs.map rowText, rfl, rfl, .inl (SqL.of ha'), whole_sum hhi hfew g.row, ?_⟩
      exact q H' sm
end
end K15

namespace K15
open PySem PySem.Spec PyProof.Rows L2 TL

/-- titles and numbers by turns -/
def inter : List Str → List Nat → List Str
  | t :: ts, n :: ns => t :: num n :: inter ts ns
  | _, _ => []
theorem inter_len : ∀ (ts : List Str) (ns : List Nat), ts.length = ns.length → (inter ts ns).length = 2 * ts.length
  | [], [], _ => rfl
  | [], _ :: _, h => by simp at h
  | _ :: _, [], h => by simp at h
  | t :: ts, n :: ns, h => by
    have ih := inter_len ts ns (by simpa using h)
    show (inter ts ns).length + 1 + 1 = 2 * (ts.length + 1)
    omega
theorem inter_even : ∀ (ts : List Str) (ns : List Nat) (i : Nat) (t : Str), ts.length = ns.length → ts[i]? = some t → (inter ts ns)[2 * i]? = some t
  | [], _, i, _, _, h => by simp at h
  | _ :: _, [], _, _, h, _ => by simp at h
  | a :: ts, n :: ns, 0, t, _, h => h
  | a :: ts, n :: ns, i + 1, t, hl, h => by
    have ih := inter_even ts ns i t (by simpa using hl) (by simpa using h)
    have e : 2 * (i + 1) = 2 * i + 1 + 1 := by omega
    rw [e]
    show (inter ts ns)[2 * i]? = some t
    exact ih
theorem inter_odd : ∀ (ts : List Str) (ns : List Nat) (i : Nat) (n : Nat), ts.length = ns.length → ns[i]? = some n → (inter ts ns)[2 * i + 1]? = some (num n)
  | [], [], i, _, _, h => by simp at h
  | [], _ :: _, _, _, h, _ => by simp at h
  | _ :: _, [], _, _, h, _ => by simp at h
  | a :: ts, n :: ns, 0, m, _, h => by
    have e : n = m := Option.some.inj h
    subst e
    rfl
  | a :: ts, n :: ns, i + 1, m, hl, h => by
    have ih := inter_odd ts ns i m (by simpa using hl) (by simpa using h)
    have e : 2 * (i + 1) + 1 = 2 * i + 1 + 1 + 1 := by omega
    rw [e]
    show (inter ts ns)[2 * i + 1]? = some (num m)
    exact ih
section
variable {P : Program} {w : World} {K : PySem.W.Frag} {mg : Str → Option Value} {base : Heap}
/-! ### plain_number -/
def spPlain : Sp := fun vs H Q _ => ∃ n : Nat, vs = [.str (num n)] ∧ n ≤ 1000 ∧ ∀ H', Same H H' → Q (.int (n : Int)) H'
theorem ok_plain {f : Addr} {fd : FuncData} {k : Nat} {t1 t2 : Tok} (F : Fun K "plain_number" "plain_number" sPlain f fd) (mL : mg "len" = none) (mA : mg "all" = none) (mi : mg "int" = none)
    (m1 : mg "FIGURES" = some (.str figs t1)) (m2 : mg "LONGEST_layouttexts" = some (.int 30 t2)) : FnOk P w K mg base CX0 (k + 1) f fd ["word"] spPlain := by
  refine F.ok scPlain (fun vs H Q E h => ?_) (fun cdv A outer s H vs Q E hr h => ?_)
  · obtain ⟨n, rfl, _⟩ := h
    rfl
  · obtain ⟨n, rfl, hn, q⟩ := h
    refine ⟨_, pss_cons (ps_if (PW.pt (pw_or (pt_not (pt_chain op_le op_le pe_int (pe_callB call_len_str (by rfl) mL PySem.boot_len (pa_cons (pv 0) pa_nil)) (pe_glob (v := .int 30) (by rfl) m2 ⟨_, rfl⟩)))
        (pw_or1 (pt_not (pt_val (pe_callB (cr_all rfl) (by rfl) mA (by decide +kernel) (pa_cons (pe_lc (own := [("sign", 1)]) (g := gName 1) (tt := tYes) rfl scPlain.nd (pi_str (pv 0)) (blkOk_by (own := [("sign", 1)]) (N := ["word", "sign"]) (sc := defScope sPlain) (by decide +kernel))
          (fun _ _ _ _ _ => pg_name (i := 1) scPlain.nd rfl (Or.inl rfl)) (fun _ _ _ _ _ => pts_nil)
          (fun _ _ _ _ _ => pe_cmpR op_in_sign (pv 1) (pe_glob (v := .str figs) (by rfl) m1 ⟨_, rfl⟩) (by rfl))) pa_nil))))))) (pss_one (ps_ret pe_non)) pss_nil)
      (pss_cons (ps_if (PW.pt (pw_and (pt_val (pe_m1 PySem.F.slot_str_startswith PySem.F.type_str_startswith mt_startswith (pv 0) pe_str)) (pw_and1 (pt_cmpR op_ne (pv 0) pe_str (nomark _))))) (pss_one (ps_ret pe_non)) pss_nil)
      (pss_one (ps_ret (pe_callTy call_int_str (by rfl) mi (by decide +kernel) (pa_cons (pv 0) pa_nil))))), ?_⟩
    have hl := num_len4 hn
    have hp := num_pos n
    refine ⟨_, rfl, num n, rfl, szl (by omega), _, _, rfl, rfl, true, bT (by omega), iteT ⟨_, _, rfl, rfl, true, bT (by omega), iteF ?_⟩⟩
    refine ⟨_, rfl, num n, rfl, fun D hD => lc_it walk_str (fun i H' => Same H H' ∧ H' D = some (.lst ((List.replicate i true).map V.bl)) ∧ i ≤ (num n).cps.size) ⟨same_new hD, upd_same, Nat.zero_le _⟩ (fun _ _ _ _ => trivial) ?_ ?_⟩
    · rintro i x H1 H' hi ⟨sm, hd, _⟩ ⟨rfl, c2, hc2, rfl⟩
      refine ⟨rfl, ?_⟩
      have hm : c2 ∈ tl (num n) := by
        have e : (tl (num n))[i]? = some c2 := by
          rw [Array.getElem?_toList]
          exact hc2
        exact List.mem_of_getElem? e
      refine ⟨_, rfl, c2, figs, rfl, rfl, _, hd, ?_, fun b o e => ?_, ?_, hi⟩
      · rw [List.length_map, List.length_replicate]
        have : (num n).cps.size ≤ 4 := hl
        exact small1000 (by omega)
      · rw [upd_ne (ne_of_none e hD)]
        exact sm _ _ e
      · refine upd_same.trans ?_
        rw [List.replicate_succ', List.map_append]
        exact congrArg (fun v => some (HO.lst ((List.replicate i true).map V.bl ++ [v]))) (bT (num_figs n c2 hm))
    · rintro H' ⟨sm, hd, _⟩
      refine ⟨D, _, rfl, SqL.of hd, ?_⟩
      rw [show (List.replicate (num n).cps.size true).all id = true by simp]
      refine ⟨true, rfl, iteF ?_⟩
      refine ⟨_, rfl, ⟨_, rfl⟩, num n, zero, rfl, rfl, ?_⟩
      have last : Q (.int (n : Int)) H' := q H' sm
      cases hs : Txt.startswith (num n) zero with
      | false => exact ⟨false, rfl, iteF (iteF ⟨_, rfl, num n, _, rfl, num_val (Nat.lt_of_le_of_lt hn (by decide)), by omega, last⟩)⟩
      | true =>
        refine ⟨true, rfl, iteT ⟨_, rfl, rfl, false, nT (congrArg V.str (num_starts hs)), iteF ⟨_, rfl, num n, _, rfl, num_val (Nat.lt_of_le_of_lt hn (by decide)), by omega, last⟩⟩⟩
/-! ### numbered -/
def spNumd : Sp := fun vs H Q _ => ∃ (l t : Addr) (ws ts : List Str), vs = [.ref l, .ref t] ∧ H l = some (.lst (ws.map V.str)) ∧ H t = some (.tup (ts.map V.str)) ∧ ts.length ≤ 10 ∧ ws.length ≤ 100 ∧
  ((ws.length ≠ 2 * ts.length ∧ Q .non H) ∨ (∃ ns : List Nat, ws = inter ts ns ∧ ts.length = ns.length ∧ (∀ n ∈ ns, n ≤ 1000) ∧ ∀ H' p, Same H H' → H p = none → H' p = some (.lst (ns.map fun (n : Nat) => V.int (n : Int))) → Q (.ref p) H'))
theorem ok_numd {f fP : Addr} {fd fdP : FuncData} {k : Nat} (F : Fun K "numbered" "numbered" sNumd f fd) (mL : mg "len" = none) (mE : mg "enumerate" = none)
    (GP : FnOk P w K mg base CX0 (k + 1) fP fdP ["word"] spPlain) (kP : PySem.W.keepIn K (.ref fP) = true) (bP : Binds K fdP ["word"] []) (mP : mg "plain_number" = some (.ref fP)) : FnOk P w K mg base CX0 (k + 2) f fd ["words", "titles"] spNumd := by
  refine F.ok scNumd (fun vs H Q E h => ?_) (fun cdv A outer s H vs Q E hr h => ?_)
  · obtain ⟨l, t, ws, ts, rfl, _⟩ := h
    rfl
  · obtain ⟨l, t, ws, ts, rfl, hl, ht, ht10, hw100, q⟩ := h
    refine ⟨_, pss_cons (ps_if (pt_cmpR op_ne (pe_callB call_len_seq (by rfl) mL PySem.boot_len (pa_cons (pv 0) pa_nil)) (pe_op op_mul pe_int (pe_callB call_len_seq (by rfl) mL PySem.boot_len (pa_cons (pv 1) pa_nil))) (nomark _)) (pss_one (ps_ret pe_non)) pss_nil)
      (pss_cons (ps_set (i := 2) scNumd.nd rfl (.inl rfl) (pe_lst pa_nil))
      (pss_cons (ps_for PassesOwn.never rfl (pi_numT (by rfl) mE (pa_cons (pv 1) pa_nil)) (pg_tup rfl (pgs_cons (pg_name (i := 3) scNumd.nd rfl (.inl rfl)) (pgs_cons (pg_name (i := 4) scNumd.nd rfl (.inl rfl)) pgs_nil)))
        (pss_cons (ps_set (i := 5) scNumd.nd rfl (.inl rfl) (pe_call GP hr (by rfl) mP kP bP .nil pass0 (pa_cons (pe_ix ix_list (pv 0) (pe_op op_add (pe_op op_mul pe_int (pv 3)) pe_int) (fun _ _ => rfl)) pa_nil)))
        (pss_cons (ps_if (PW.pt (pw_or (pt_cmpR op_ne (pe_ix ix_list (pv 0) (pe_op op_mul pe_int (pv 3)) (fun _ _ => rfl)) (pv 4) (nomark _)) (pw_or1 (pt_cmpR op_isN (pv 5) pe_non (nomark _))))) (pss_one (ps_ret pe_non)) pss_nil)
        (pss_one (ps_expr (pe_bm PySem.F.plainAttrs_list PySem.F.slot_list_append PySem.F.type_list_append mt_append (pv 2) (pa_cons (pv 5) pa_nil)))))))
      (pss_one (ps_ret (pv 2))))), ?_⟩
    refine ⟨_, rfl, l, _, rfl, .inl (SqL.of hl), _, rfl, t, _, rfl, .inr (SqT.of ht), _, _, rfl, rfl, .inl ⟨by decide, by decide⟩, rfl, ?_⟩
    rw [List.length_map, List.length_map]
    rcases q with ⟨hne, q⟩ | ⟨ns, rfl, hln, hns, q⟩
    · refine ⟨true, nF (fun e => hne ?_), iteT q⟩
      have e2 := V.int.inj e
      omega
    · have hlen := inter_len ts ns hln
      refine ⟨false, nT (congrArg V.int (by rw [hlen]; omega)), iteF ?_⟩
      -- found = []
      refine ⟨Nat.zero_le _, fun a ha => ?_⟩
      have s1 : Same H (upd H a (.lst [])) := same_new ha
      refine ⟨_, rfl, t, ts.map V.str, rfl, SqT.of (s1 _ _ ht), for_num (Sq := fun H xs => SqT K H t xs) (xs := ts.map V.str) (k0 := 0) (fun i σ H' => ∃ v3 v4 v5, σ = [some (.ref l), some (.ref t), some (.ref a), v3, v4, v5] ∧ Same H H' ∧ H' a = some (.lst ((ns.take i).map fun (n : Nat) => V.int (n : Int))))
        ⟨none, none, none, rfl, s1, upd_same⟩ (fun i σ H' _ ⟨_, _, _, _, sm, _⟩ => SqT.of (sm _ _ ht)) ?_ ?_⟩
      · rintro i x T σ H' hx ⟨v3, v4, v5, rfl, sm, ha'⟩ hT
        obtain ⟨ti, hti, rfl⟩ : ∃ ti, ts[i]? = some ti ∧ x = V.str ti := by
          rw [List.getElem?_map] at hx
          cases e : ts[i]? with
          | none =>
            rw [e] at hx
            cases hx
          | some z =>
            rw [e] at hx
            exact ⟨z, rfl, (Option.some.inj hx).symm⟩
        have hit : i < ts.length := (List.getElem?_eq_some_iff.mp hti).1
        have hni : ns[i]? = some ns[i] := List.getElem?_eq_getElem (by omega)
        have sT : Same H' (upd H' T (.tup [.int (0 + (i : Nat)), .str ti])) := same_new hT
        have g1 : ((inter ts ns).map V.str)[2 * i + 1]? = some (.str (num ns[i])) := by
          rw [List.getElem?_map, inter_odd ts ns i _ hln hni]
          rfl
        have g0 : ((inter ts ns).map V.str)[2 * i]? = some (.str ti) := by
          rw [List.getElem?_map, inter_even ts ns i _ hln hti]
          rfl
        -- k, title = the pair
        refine ⟨T, _, rfl, SqT.of upd_same, rfl, _, _, rfl, _, _, rfl, rfl, ?_⟩
        -- number
        refine ⟨_, rfl, _, rfl, _, _, rfl, rfl, .inl ⟨by decide, by decide⟩, _, _, rfl, rfl, l, _, _, _, rfl, rfl, SqL.of (sT _ _ (sm _ _ hl)), at_of (j := 2 * i + 1) (by omega) g1, ns[i], rfl, hns _ (List.getElem_mem _), fun H2 s2 => ?_⟩
        -- the test
        refine ⟨_, rfl, _, rfl, _, _, rfl, rfl, .inl ⟨by decide, by decide⟩, l, _, _, _, rfl, rfl, SqL.of (s2 _ _ (sT _ _ (sm _ _ hl))), at_of (j := 2 * i) (by omega) g0, _, rfl, rfl, false, nT rfl, iteF ?_⟩
        refine ⟨_, rfl, rfl, false, bF (by intro z; cases z), iteF ?_⟩
        have ha2 := s2 _ _ (sT _ _ ha')
        refine ⟨_, rfl, .inl ⟨rfl, _, SqL.of ha2⟩, _, rfl, a, _, _, rfl, rfl, ha2, ?_, ?_⟩
        · rw [List.length_map, List.length_take]
          exact small1000 (by omega)
        · refine ⟨_, _, _, rfl, fun b o e => ?_, ?_⟩
          · rw [upd_ne (ne_of_none e ha)]
            exact s2 _ _ (sT _ _ (sm _ _ e))
          · refine upd_same.trans ?_
            rw [List.take_add_one, hni, List.map_append]
            rfl
      · rintro σ H' ⟨v3, v4, v5, rfl, sm, ha'⟩
        rw [List.length_map, hln, List.take_of_length_le (Nat.le_refl _)] at ha'
        exact ⟨_, rfl, q H' a sm ha ha'⟩
end
end K15

namespace K15
open PySem PySem.Spec PyProof.Rows L2 TL

theorem rest_a {r : Rw} (h : r.pn = 0) : restWords r = inter [wAt, wSize] [r.st, r.sz] := by
  unfold restWords
  rw [if_pos h]
  rfl
theorem rest_b {r : Rw} (h : r.pn ≠ 0) : restWords r = inter [wAt, wSize, wPins] [r.st, r.sz, r.pn] := by
  unfold restWords
  rw [if_neg h]
  rfl
theorem cut1 (x : V) (xs : List V) : cutV (x :: xs) (some 1) none = xs := by
  unfold cutV
  rw [show HT.sIx (x :: xs).length 0 (some 1) = min 1 (x :: xs).length from HT.sIx_nat (x :: xs).length 0 1, HT.sIx_none]
  rw [show min 1 (x :: xs).length = 1 by
    rw [List.length_cons]
    omega]
  show (List.take ((x :: xs).length - 1) xs) = xs
  rw [List.length_cons, Nat.add_sub_cancel]
  exact List.take_length
section
variable {P : Program} {w : World} {K : PySem.W.Frag} {mg : Str → Option Value} {base : Heap}
/-! ### read_block -/
def spRBlock : Sp := fun vs H Q _ => ∃ (r : Rw) (many : Nat), vs = [.str (rowText r)] ∧ RowOk many r ∧ many ≤ 240 ∧ ∀ H' p, Same H H' → H p = none → H' p = some (.tup (rowV r)) → Q (.ref p) H'
theorem ok_rblock {f fN fD : Addr} {fd fdN fdD : FuncData} {k : Nat} (F : Fun K "read_block" "read_block" sRBlock f fd)
    (GN : FnOk P w K mg base CX0 (k + 1) fN fdN ["thing"] spName) (kN : PySem.W.keepIn K (.ref fN) = true) (bN : Binds K fdN ["thing"] []) (mN : mg "is_name" = some (.ref fN))
    (GD : FnOk P w K mg base CX0 (k + 2) fD fdD ["words", "titles"] spNumd) (kD : PySem.W.keepIn K (.ref fD) = true) (bD : Binds K fdD ["words", "titles"] []) (mD : mg "numbered" = some (.ref fD)) :
    FnOk P w K mg base CX0 (k + 3) f fd ["text"] spRBlock := by
  refine F.ok scRBlock (fun vs H Q E h => ?_) (fun cdv A outer s H vs Q E hr h => ?_)
  · obtain ⟨r, many, rfl, _⟩ := h
    rfl
  · obtain ⟨r, many, rfl, ok, hm, q⟩ := h
    have hr1 : Room (k + 1) (A.deeper (envOfC "read_block" (defScope sRBlock) s.heap.objs.size f cdv)) := hr.mono (by omega)
    refine ⟨_, pss_cons (ps_asg (pe_partition (pv 0) pe_str) (pg_tup (by rfl) (pgs_cons (pg_name (i := 1) scRBlock.nd rfl (.inl rfl)) (pgs_cons (pg_name (i := 2) scRBlock.nd rfl (.inl rfl)) (pgs_cons (pg_name (i := 3) scRBlock.nd rfl (.inl rfl)) pgs_nil)))))
      (pss_cons (ps_set (i := 4) scRBlock.nd rfl (.inl rfl) (pe_split (pv 3) pe_str))
      (pss_cons (ps_if (pt_not (pt_val (pe_call GN hr1 (by rfl) mN kN bN .nil pass0 (pa_cons (pv 1) pa_nil)))) (pss_one (ps_ret pe_non)) pss_nil)
      (pss_cons (ps_set (i := 5) scRBlock.nd rfl (.inl rfl) (pe_call GD hr (by rfl) mD kD bD .nil pass0 (pa_cons (pv 4) (pa_cons (pe_tup (pa_cons pe_str (pa_cons pe_str pa_nil))) pa_nil))))
      (pss_cons (ps_if (pt_cmpR op_notN (pv 5) pe_non (nomark _)) (pss_one (ps_ret (pe_tup (pa_cons (pv 1) (pa_cons (pe_ix ix_list (pv 5) pe_int (fun _ _ => rfl)) (pa_cons (pe_ix ix_list (pv 5) pe_int (fun _ _ => rfl)) (pa_cons pe_int pa_nil))))))) pss_nil)
      (pss_cons (ps_set (i := 5) scRBlock.nd rfl (.inl rfl) (pe_call GD hr (by rfl) mD kD bD .nil pass0 (pa_cons (pv 4) (pa_cons (pe_tup (pa_cons pe_str (pa_cons pe_str (pa_cons pe_str pa_nil)))) pa_nil))))
      (pss_cons (ps_if (PW.pt (pw_or (pt_cmpR op_isN (pv 5) pe_non (nomark _)) (pw_or1 (pt_cmpR op_eq (pe_ix ix_list (pv 5) pe_int (fun _ _ => rfl)) pe_int (nomark _))))) (pss_one (ps_ret pe_non)) pss_nil)
      (pss_one (ps_ret (pe_tup (pa_cons (pv 1) (pa_cons (pe_ix ix_list (pv 5) pe_int (fun _ _ => rfl)) (pa_cons (pe_ix ix_list (pv 5) pe_int (fun _ _ => rfl)) (pa_cons (pe_ix ix_list (pv 5) pe_int (fun _ _ => rfl)) pa_nil))))))))))))), ?_⟩
    have h1 := row_short hm ok
    have h2 := rest_short hm ok
    have h3 := ok.en
    have h4 := ok.pn
    have ep : Txt.partition (rowText r) (" " : Str) = (r.nm, sp, restText r) := part_row ok.nm
    have es : Txt.split (restText r) (" " : Str) = restWords r := split_rest r
    -- name, blank, rest
    refine ⟨_, rfl, ⟨_, rfl⟩, rowText r, _, rfl, rfl, rfl, szl (by omega), fun p hp => ?_⟩
    rw [ep]
    have s1 : Same H (upd H p (.tup [.str r.nm, .str sp, .str (restText r)])) := same_new hp
    refine ⟨p, _, rfl, SqT.of upd_same, rfl, _, _, rfl, _, _, rfl, _, _, rfl, rfl, ?_⟩
    -- words
    refine ⟨_, rfl, ⟨_, rfl⟩, restText r, _, rfl, rfl, rfl, szl (by omega), fun l hl => ?_⟩
    rw [es]
    have s2 : Same H (upd (upd H p (.tup [.str r.nm, .str sp, .str (restText r)])) l (.lst ((restWords r).map V.str))) := s1.trans (same_new hl)
    generalize hH2 : upd (upd H p (.tup [.str r.nm, .str sp, .str (restText r)])) l (.lst ((restWords r).map V.str)) = H2 at s2
    have hl2 : H2 l = some (.lst ((restWords r).map V.str)) := by
      rw [← hH2]
      exact upd_same
    -- is_name
    refine ⟨_, rfl, r.nm, rfl, ok.nm, fun H3 s3 => ⟨true, rfl, iteF ?_⟩⟩
    -- numbered, two
    refine ⟨_, rfl, by decide, fun t ht => ?_⟩
    have s4 : Same H3 (upd H3 t (.tup [.str wAt, .str wSize])) := same_new ht
    have hwl := restWords_len r
    refine ⟨l, t, restWords r, [wAt, wSize], rfl, s4 _ _ (s3 _ _ hl2), upd_same, by decide, by omega, ?_⟩
    by_cases hp0 : r.pn = 0
    · rw [rest_a hp0]
      refine .inr ⟨[r.st, r.sz], rfl, rfl, ?_, fun H5 b s5 hb hb5 => ?_⟩
      · intro n hn
        simp only [List.mem_cons, List.not_mem_nil, or_false] at hn
        rcases hn with rfl | rfl <;> omega
      · refine ⟨_, rfl, rfl, true, nF (by intro z; cases z), iteT ?_⟩
        refine ⟨_, rfl, _, rfl, b, _, _, _, rfl, rfl, SqL.of hb5, atI_nat (j := 0) rfl, _, rfl, b, _, _, _, rfl, rfl, SqL.of hb5, atI_nat (j := 1) rfl, (by show 4 ≤ sizeLine; decide), fun c hc => ?_⟩
        refine q _ c (s2.trans (s3.trans (s4.trans (s5.trans (same_new hc))))) ((s2.trans (s3.trans (s4.trans s5))).free hc) (upd_same.trans ?_)
        show some (HO.tup [V.str r.nm, V.int (r.st : Int), V.int (r.sz : Int), V.int 0]) = some (HO.tup (rowV r))
        unfold rowV
        rw [hp0]
        rfl
    · refine .inl ⟨by rw [rest_b hp0]; show ¬ (6 = 2 * 2); decide, ?_⟩
      refine ⟨_, rfl, rfl, false, nT rfl, iteF ?_⟩
      -- numbered, three
      refine ⟨_, rfl, by decide, fun t2 ht2 => ?_⟩
      have s5 : Same (upd H3 t (.tup [.str wAt, .str wSize])) (upd (upd H3 t (.tup [.str wAt, .str wSize])) t2 (.tup [.str wAt, .str wSize, .str wPins])) := same_new ht2
      refine ⟨l, t2, restWords r, [wAt, wSize, wPins], rfl, s5 _ _ (s4 _ _ (s3 _ _ hl2)), upd_same, by decide, by omega, .inr ⟨[r.st, r.sz, r.pn], rest_b hp0, rfl, ?_, fun H6 b s6 hb hb6 => ?_⟩⟩
      · intro n hn
        simp only [List.mem_cons, List.not_mem_nil, or_false] at hn
        rcases hn with rfl | rfl | rfl <;> omega
      · refine ⟨_, rfl, rfl, false, bF (by intro z; cases z), iteF ?_⟩
        refine ⟨_, rfl, b, _, _, _, rfl, rfl, SqL.of hb6, atI_nat (j := 2) rfl, rfl, false, bF (by intro z; exact hp0 (by have := V.int.inj z; omega)), iteF ?_⟩
        refine ⟨_, rfl, _, rfl, b, _, _, _, rfl, rfl, SqL.of hb6, atI_nat (j := 0) rfl, _, rfl, b, _, _, _, rfl, rfl, SqL.of hb6, atI_nat (j := 1) rfl, _, rfl, b, _, _, _, rfl, rfl, SqL.of hb6, atI_nat (j := 2) rfl, (by show 4 ≤ sizeLine; decide), fun c hc => ?_⟩
        exact q _ c (s2.trans (s3.trans (s4.trans (s5.trans (s6.trans (same_new hc)))))) ((s2.trans (s3.trans (s4.trans (s5.trans s6)))).free hc) upd_same
/-! ### read_layout -/
def spRead (C : Addr) : Sp := fun vs H Q _ => ∃ (many : Nat) (ps rs : List Rw), vs = [.str (whole many ps)] ∧ ps.Perm rs ∧ Good many rs ∧ ∀ H' p, Same H H' → H p = none → LayAt C H' p many rs → Q (.ref p) H'
theorem ok_read {f C fD fB fI : Addr} {fd fdD fdB fdI : FuncData} {k : Nat} (F : Fun K "read_layout" "read_layout" sRead f fd) (mI : mg "isinstance" = none) (mS : mg "str" = none) (mE : mg "enumerate" = none)
    (GD : FnOk P w K mg base CX0 (k + 2) fD fdD ["words", "titles"] spNumd) (kD : PySem.W.keepIn K (.ref fD) = true) (bD : Binds K fdD ["words", "titles"] []) (mD : mg "numbered" = some (.ref fD))
    (GB : FnOk P w K mg base CX0 (k + 3) fB fdB ["text"] spRBlock) (kB : PySem.W.keepIn K (.ref fB) = true) (bB : Binds K fdB ["text"] []) (mB : mg "read_block" = some (.ref fB))
    (M : Mk K C fI) (GI : FnOk P w K mg base CX0 (k + 4) fI fdI ["self", "many", "rows"] (spInit C)) (bI : Binds K fdI ["self", "many", "rows"] []) (mC : mg "Layout" = some (.ref C)) :
    FnOk P w K mg base CX0 (k + 6) f fd ["text"] (spRead C) := by
  refine F.ok scRead (fun vs H Q E h => ?_) (fun cdv A outer s H vs Q E hr h => ?_)
  · obtain ⟨many, ps, rs, rfl, _⟩ := h
    rfl
  · obtain ⟨many, ps, rs, rfl, pm, g, q⟩ := h
    have hr2 : Room (k + 2) (A.deeper (envOfC "read_layout" (defScope sRead) s.heap.objs.size f cdv)) := hr.mono (by omega)
    have hr3 : Room (k + 3) (A.deeper (envOfC "read_layout" (defScope sRead) s.heap.objs.size f cdv)) := hr.mono (by omega)
    refine ⟨_, pss_cons (ps_if (pt_not (pt_val (pe_callB call_isi (by rfl) mI (by decide +kernel) (pa_cons (pv 0) (pa_cons (pe_bltn (by rfl) mS (by decide +kernel) (show RelV (.ty "str") (.type "str") from rfl)) pa_nil))))) (pss_one ps_never) pss_nil)
      (pss_cons (ps_set (i := 1) scRead.nd rfl (.inl rfl) (pe_split (pv 0) pe_str))
      (pss_cons (ps_set (i := 2) scRead.nd rfl (.inl rfl) (pe_call GD hr2 (by rfl) mD kD bD .nil pass0 (pa_cons (pe_split (pe_ix ix_list (pv 1) pe_int (fun _ _ => rfl)) pe_str) (pa_cons (pe_tup (pa_cons pe_str pa_nil)) pa_nil))))
      (pss_cons (ps_if (pt_cmpR op_isN (pv 2) pe_non (nomark _)) (pss_one ps_never) pss_nil)
      (pss_cons (ps_set (i := 3) scRead.nd rfl (.inl rfl) (pe_lst pa_nil))
      (pss_cons (ps_for PassesOwn.never rfl (pi_numL (by rfl) mE (pa_cons (pe_slice sl_list (pv 1) (po_some pe_int) po_none) pa_nil) (pk_cons pe_int pk_nil)) (pg_tup rfl (pgs_cons (pg_name (i := 4) scRead.nd rfl (.inl rfl)) (pgs_cons (pg_name (i := 5) scRead.nd rfl (.inl rfl)) pgs_nil)))
        (pss_cons (ps_set (i := 6) scRead.nd rfl (.inl rfl) (pe_call GB hr3 (by rfl) mB kB bB .nil pass0 (pa_cons (pv 5) pa_nil)))
        (pss_cons (ps_if (pt_cmpR op_isN (pv 6) pe_non (nomark _)) (pss_one ps_never) pss_nil)
        (pss_one (ps_expr (pe_bm PySem.F.plainAttrs_list PySem.F.slot_list_append PySem.F.type_list_append mt_append (pv 3) (pa_cons (pv 6) pa_nil)))))))
      (pss_one (ps_ret (pe_make M GI hr (by rfl) mC bI .nil pass0 (pa_cons (pe_ix ix_list (pv 2) pe_int (fun _ _ => rfl)) (pa_cons (pv 3) pa_nil)))))))))), ?_⟩
    have hlo := g.lo
    have hhi := g.hi
    have hfew : ps.length ≤ 40 := g.perm_few pm
    have hrow := g.perm_row pm
    have hws := whole_short hhi hfew hrow
    have hhs := head_short hhi
    have ew : Txt.split (whole many ps) ("\n" : Str) = headText many :: ps.map rowText := split_whole fun r hr => (hrow r hr).nm
    have eh : Txt.split (headText many) (" " : Str) = [wCells, num many] := split_cells many
    refine ⟨_, rfl, _, _, _, _, true, rfl, .ty "str", .base (.str _), kit_ty (by decide +kernel), true, rfl, iteF ?_⟩
    -- rows
    refine ⟨_, rfl, ⟨_, rfl⟩, whole many ps, _, rfl, rfl, rfl, Nat.le_trans (show _ ≤ 2626 by omega) (by decide), fun l hl => ?_⟩
    rw [ew]
    have s1 : Same H (upd H l (.lst ((headText many :: ps.map rowText).map V.str))) := same_new hl
    generalize hH1 : upd H l (.lst ((headText many :: ps.map rowText).map V.str)) = H1 at s1
    have hl1 : H1 l = some (.lst ((headText many :: ps.map rowText).map V.str)) := by
      rw [← hH1]
      exact upd_same
    -- cells
    refine ⟨_, rfl, l, _, _, _, rfl, rfl, SqL.of hl1, atI_nat (j := 0) rfl, ⟨_, rfl⟩, headText many, _, rfl, rfl, rfl, szl (by omega), fun l2 hl2 => ?_⟩
    rw [eh]
    have s2 : Same H1 (upd H1 l2 (.lst ([wCells, num many].map V.str))) := same_new hl2
    refine ⟨by decide, fun t ht => ?_⟩
    have s3 : Same (upd H1 l2 (.lst ([wCells, num many].map V.str))) (upd (upd H1 l2 (.lst ([wCells, num many].map V.str))) t (.tup [.str wCells])) := same_new ht
    refine ⟨l2, t, [wCells, num many], [wCells], rfl, s3 _ _ upd_same, upd_same, by decide, (by show 2 ≤ 100; decide), .inr ⟨[many], rfl, rfl, ?_, fun H4 c s4 hc hc4 => ?_⟩⟩
    · intro n hn
      rw [List.mem_singleton.mp hn]
      omega
    have s14 : Same H1 H4 := s2.trans (s3.trans s4)
    refine ⟨_, rfl, rfl, false, bF (by intro z; cases z), iteF ?_⟩
    -- blocks = []
    refine ⟨Nat.zero_le _, fun a ha => ?_⟩
    have s5 : Same H4 (upd H4 a (.lst [])) := same_new ha
    -- the loop
    refine ⟨_, rfl, 1, rfl, l, _, rfl, SqL.of (s5 _ _ (s14 _ _ hl1)), fun d hd => ?_⟩
    have e1 : cutV ((headText many :: ps.map rowText).map V.str) (some 1) none = (ps.map rowText).map V.str := cut1 _ _
    rw [e1]
    have s6 : Same (upd H4 a (.lst [])) (upd (upd H4 a (.lst [])) d (.lst ((ps.map rowText).map V.str))) := same_new hd
    have nad : a ≠ d := by
      rintro rfl
      rw [upd_same] at hd
      cases hd
    refine ⟨d, (ps.map rowText).map V.str, 1, rfl, rfl, by decide, by decide, SqL.of upd_same, for_num (Sq := fun H xs => SqL K H d xs) (xs := (ps.map rowText).map V.str) (k0 := 1)
      (fun i σ H' => ∃ v4 v5 v6 ys, σ = [some (.str (whole many ps)), some (.ref l), some (.ref c), some (.ref a), v4, v5, v6] ∧ Same H4 H' ∧ H' d = some (.lst ((ps.map rowText).map V.str)) ∧ H' a = some (.lst ys) ∧ RowsAt H' ys (ps.take i))
      ⟨none, none, none, [], rfl, s5.trans s6, upd_same, by rw [upd_ne nad]; exact upd_same, .nil⟩ (fun i σ H' _ ⟨_, _, _, _, _, _, k, _⟩ => SqL.of k) ?_ ?_⟩
    · rintro i x T σ H' hx ⟨v4, v5, v6, ys, rfl, sm, hd', ha', hy⟩ hT
      obtain ⟨r, hri, rfl⟩ : ∃ r, ps[i]? = some r ∧ x = V.str (rowText r) := by
        rw [List.getElem?_map, List.getElem?_map] at hx
        cases e : ps[i]? with
        | none =>
          rw [e] at hx
          cases hx
        | some z =>
          rw [e] at hx
          exact ⟨z, rfl, (Option.some.inj hx).symm⟩
      have hil : i < ps.length := (List.getElem?_eq_some_iff.mp hri).1
      have hyl : ys.length = (ps.take i).length := Paired.length hy
      rw [List.length_take] at hyl
      have sT : Same H' (upd H' T (.tup [.int (1 + (i : Nat)), .str (rowText r)])) := same_new hT
      refine ⟨T, _, rfl, SqT.of upd_same, rfl, _, _, rfl, _, _, rfl, rfl, ?_⟩
      refine ⟨_, rfl, r, many, rfl, hrow r (List.mem_of_getElem? hri), hhi, fun H6 b s6' hb hb6 => ?_⟩
      have hb' : H' b = none := sT.free hb
      have s7 : Same H' H6 := sT.trans s6'
      refine ⟨_, rfl, rfl, false, bF (by intro z; cases z), iteF ?_⟩
      have ha6 := s7 _ _ ha'
      refine ⟨_, rfl, .inl ⟨rfl, _, SqL.of ha6⟩, _, rfl, a, _, _, rfl, rfl, ha6, small1000 (by omega), ?_⟩
      have keep : ∀ z o, H' z = some o → z ≠ a → (upd H6 a (.lst (ys ++ [.ref b]))) z = some o := fun z o e nz => by
        rw [upd_ne nz]
        exact s7 _ _ e
      refine ⟨_, _, _, ys ++ [.ref b], rfl, fun z o e => keep z o (sm _ _ e) (ne_of_none e ha), keep _ _ hd' nad.symm, upd_same, ?_⟩
      rw [List.take_add_one, hri]
      have nba : b ≠ a := by
        rintro rfl
        rw [ha'] at hb'
        cases hb'
      refine paired_snoc (⟨b, rfl, ?_⟩ : RowAt _ (.ref b) r) (Paired.mapP hy fun x r ⟨t, q1, q2⟩ => ⟨t, q1, keep _ _ q2 (ne_of q2 ha' (by intro z; cases z))⟩)
      rw [upd_ne nba]
      exact hb6
    · rintro σ H' ⟨v4, v5, v6, ys, rfl, sm, hd', ha', hy⟩
      rw [List.length_map, List.length_map, List.take_of_length_le (Nat.le_refl _)] at hy
      -- Layout(cells[0], blocks)
      refine ⟨_, rfl, c, _, _, _, rfl, rfl, SqL.of (sm _ _ hc4), atI_nat (j := 0) rfl, _, rfl, fun x dx nx ndx nex => ?_⟩
      have sM : Same H' (upd (upd H' dx (.own x)) x (.ins C dx [])) := fun z o e => by
        rw [upd_ne (ne_of_none e nx), upd_ne (ne_of_none e ndx)]
        exact e
      refine ⟨x, a, dx, many, ys, ps, rs, rfl, upd_same, sM _ _ ha', hy.same sM, pm, g, fun H9 L9 kp => ⟨rfl, ?_⟩⟩
      have s9 : Same H' H9 := fun z o e => kp z o (sM _ _ e) (ne_of_none e nx)
      exact q H9 x (s1.trans (s14.trans (sm.trans s9))) ((s1.trans (s14.trans sm)).free nx) L9
end
end K15

namespace K15
open PySem PySem.Spec PyProof.Rows L2 TL

/-- the drawing box: a number, a seed below a prime, a count -/
def BoxAt (H : Hp) (p : Addr) : Prop := ∃ a b c : Int, H p = some (.lst [.int a, .int b, .int c]) ∧ 0 ≤ b ∧ b < 2147483629
/-- all that was tracked but the box is as it was, and the box is one -/
def Dr (p : Addr) (H H' : Hp) : Prop := (∀ b o, H b = some o → b ≠ p → H' b = some o) ∧ BoxAt H' p
theorem Dr.same {p : Addr} {H H' : Hp} (hb : BoxAt H p) (s : Same H H') : Dr p H H' :=
  ⟨fun b o e _ => s b o e, let ⟨a, b, c, e, h⟩ := hb; ⟨a, b, c, s _ _ e, h⟩⟩
theorem Dr.trans {p : Addr} {H H1 H2 : Hp} (d : Dr p H H1) (e : Dr p H1 H2) : Dr p H H2 := ⟨fun b o q n => e.1 b o (d.1 b o q n) n, e.2⟩
theorem Dr.free {p : Addr} {H H' : Hp} (hb : BoxAt H p) (d : Dr p H H') {a : Addr} (h : H' a = none) : H a = none := by
  cases q : H a with
  | none => rfl
  | some o =>
    by_cases e : a = p
    · subst e
      obtain ⟨_, _, _, e2, _⟩ := d.2
      rw [h] at e2
      cases e2
    · rw [d.1 a o q e] at h
      cases h
theorem BoxAt.ne {H : Hp} {p a : Addr} (hb : BoxAt H p) (h : H a = none) : p ≠ a := let ⟨_, _, _, e, _⟩ := hb; ne_of_none e h
/-- a thing that is no list of three ints stands apart from the box -/
theorem Dr.new {p a : Addr} {H : Hp} {o : HO} (hb : BoxAt H p) (h : H a = none) : Dr p H (upd H a o) := .same hb (same_new h)
theorem Dr.put {p a : Addr} {H H' : Hp} {o : HO} (d : Dr p H H') (ha : H a = none) (hp : a ≠ p) : Dr p H (upd H' a o) :=
  ⟨fun b u e n => by rw [upd_ne (ne_of_none e ha)]; exact d.1 b u e n, let ⟨x, y, z, e, h⟩ := d.2; ⟨x, y, z, by rw [upd_ne hp.symm]; exact e, h⟩⟩
section
variable {P : Program} {w : World} {K : PySem.W.Frag} {mg : Str → Option Value} {base : Heap}
/-! ### _law_cell_at, _law_box -/
def spCell (K : PySem.W.Frag) : Sp := fun vs H Q _ => ∃ (a : Addr) (ns : List Int) (i : Nat), vs = [.ref a, .int (i : Int)] ∧ SqL K H a (ns.map V.int) ∧ ∀ c : Int, Q (.int c) H
theorem ok_cell {f : Addr} {fd : FuncData} {k : Nat} (F : Fun K "_law_cell_at" "_law_cell_at" sCell f fd) (mL : mg "len" = none) : FnOk P w K mg base CX0 (k + 1) f fd ["_law_script", "_law_k"] (spCell K) := by
  refine F.ok scCell (fun vs H Q E h => ?_) (fun cdv A outer s H vs Q E hr h => ?_)
  · obtain ⟨a, ns, i, rfl, _⟩ := h
    rfl
  · obtain ⟨a, ns, i, rfl, hS, q⟩ := h
    refine ⟨_, pss_cons (ps_if (pt_cmpR op_lt (pv 1) (pe_callB call_len_seq (by rfl) mL PySem.boot_len (pa_cons (pv 0) pa_nil)) (nomark _)) (pss_one (ps_ret (pe_ix ix_list (pv 0) (pv 1) (fun _ _ => rfl)))) pss_nil)
      (pss_one (ps_ret (pe_op op_add (pe_op op_mul pe_int (pv 1)) pe_int))), ?_⟩
    refine ⟨_, rfl, _, rfl, a, _, rfl, .inl hS, _, _, rfl, rfl, _, rfl, ?_⟩
    rw [List.length_map]
    refine ite2 (fun h => ?_) (fun _ => ?_)
    · have h' := of_decide_eq_true h
      have hi : i < ns.length := by omega
      refine ⟨_, rfl, _, rfl, a, _, _, .int ns[i], rfl, rfl, hS, atI_nat (j := i) ?_, q _⟩
      rw [List.getElem?_map, List.getElem?_eq_getElem hi]
      rfl
    · exact ⟨_, rfl, _, _, rfl, rfl, .inl ⟨by decide, by decide⟩, _, _, rfl, rfl, q _⟩
def spBox : Sp := fun vs H Q _ => ∃ c : Int, vs = [.int c] ∧ ∀ (p : Addr) (H' : Hp), H p = none → Same H H' → BoxAt H' p → Q (.ref p) H'
theorem box_new {H : Hp} {p : Addr} (h : H p = none) (a b c : Int) (h0 : 0 ≤ b) (h1 : b < 2147483629) : BoxAt (upd H p (.lst [.int a, .int b, .int c])) p := ⟨a, b, c, upd_same, h0, h1⟩
theorem ok_box {f : Addr} {fd : FuncData} {k : Nat} (F : Fun K "_law_box" "_law_box" sBox f fd) : FnOk P w K mg base CX0 (k + 1) f fd ["_law_cell"] spBox := by
  refine F.ok scBox (fun vs H Q E h => ?_) (fun cdv A outer s H vs Q E hr h => ?_)
  · obtain ⟨c, rfl, _⟩ := h
    rfl
  · obtain ⟨c, rfl, q⟩ := h
    refine ⟨_, pss_cons (ps_if (pt_cmpR op_ge (pv 0) (pe_op op_pow pe_int pe_int) (nomark _)) (pss_one (ps_ret (pe_lst (pa_cons (pv 0) (pa_cons (pe_op op_mod (pv 0) pe_int) (pa_cons pe_int pa_nil)))))) pss_nil)
      (pss_one (ps_ret (pe_lst (pa_cons pe_int (pa_cons (pe_op op_mod (pv 0) pe_int) (pa_cons pe_int pa_nil)))))), ?_⟩
    have h0 := Int.emod_nonneg c (show (2147483629 : Int) ≠ 0 by decide)
    have h1 := Int.emod_lt_of_pos c (show (0 : Int) < 2147483629 by decide)
    refine ⟨_, rfl, 10, 18, rfl, rfl, ⟨by decide, by decide, by decide⟩, _, _, rfl, rfl, _, rfl, ?_⟩
    refine ite2 (fun _ => ?_) (fun _ => ?_)
    · exact ⟨_, rfl, _, rfl, _, _, rfl, rfl, (by show (0 : Int) < 2147483629; decide), (by show 3 ≤ sizeLine; decide), fun p hp => q p _ hp (same_new hp) (box_new hp _ _ _ h0 h1)⟩
    · exact ⟨_, rfl, _, _, rfl, rfl, (by show (0 : Int) < 2147483629; decide), (by show 3 ≤ sizeLine; decide), fun p hp => q p _ hp (same_new hp) (box_new hp _ _ _ h0 h1)⟩
/-! ### _law_take -/
def spTake : Sp := fun vs H Q _ => ∃ (p : Addr) (n : Nat), vs = [.ref p, .int (n : Int)] ∧ 1 ≤ n ∧ n ≤ 1000 ∧ BoxAt H p ∧ ∀ (v : Nat) (H' : Hp), v < n → Dr p H H' → Q (.int (v : Int)) H'
theorem mod_nat (x : Int) {n : Nat} (h : 1 ≤ n) : ∃ v : Nat, v < n ∧ x % (n : Int) = (v : Int) := by
  have h0 := Int.emod_nonneg x (show (n : Int) ≠ 0 by omega)
  have h1 := Int.emod_lt_of_pos x (show (0 : Int) < n by omega)
  exact ⟨(x % (n : Int)).toNat, by omega, by omega⟩
theorem ok_take {f : Addr} {fd : FuncData} {k : Nat} (F : Fun K "_law_take" "_law_take" sTake f fd) : FnOk P w K mg base CX0 (k + 1) f fd ["_law_box_here", "_law_many_here"] spTake := by
  refine F.ok scTake (fun vs H Q E h => ?_) (fun cdv A outer s H vs Q E hr h => ?_)
  · obtain ⟨p, n, rfl, _⟩ := h
    rfl
  · obtain ⟨p, n, rfl, hn1, hn2, ⟨a, b, c, hp, hb0, hb1⟩, q⟩ := h
    refine ⟨_, pss_cons (ps_if (pt_cmpR op_gt (pe_ix ix_list (pv 0) pe_int (fun _ _ => rfl)) pe_int (nomark _))
        (pss_cons (ps_set (i := 2) scTake.nd rfl (.inl rfl) (pe_op op_mod (pe_ix ix_list (pv 0) pe_int (fun _ _ => rfl)) (pv 1)))
        (pss_cons (ps_asg (pe_op op_fdiv (pe_ix ix_list (pv 0) pe_int (fun _ _ => rfl)) (pv 1)) (pg_sub (pv 0) pe_int set_list))
        (pss_one (ps_ret (pv 2))))) pss_nil)
      (pss_cons (ps_asg (pe_op op_add (pe_ix ix_list (pv 0) pe_int (fun _ _ => rfl)) pe_int) (pg_sub (pv 0) pe_int set_list))
      (pss_cons (ps_set (i := 2) scTake.nd rfl (.inl rfl) (pe_op op_mod (pe_op op_add (pe_op op_add (pe_op op_mul (pe_ix ix_list (pv 0) pe_int (fun _ _ => rfl)) pe_int) (pe_op op_mul pe_int (pe_ix ix_list (pv 0) pe_int (fun _ _ => rfl)))) pe_int) pe_int))
      (pss_cons (ps_set (i := 2) scTake.nd rfl (.inl rfl) (pe_op op_mod (pe_op op_add (pe_op op_add (pe_op op_mul (pv 2) (pv 2)) (pe_op op_mul pe_int (pe_ix ix_list (pv 0) pe_int (fun _ _ => rfl)))) pe_int) pe_int))
      (pss_one (ps_ret (pe_op op_mod (pe_op op_mod (pe_op op_mul (pv 2) (pv 2)) pe_int) (pv 1))))))), ?_⟩
    have hn0 : (0 : Int) < (n : Int) := by omega
    refine ⟨_, rfl, p, _, _, _, rfl, rfl, SqL.of hp, atI_nat (j := 0) rfl, _, _, rfl, rfl, _, rfl, ?_⟩
    refine ite2 (fun _ => ?_) (fun _ => ?_)
    · obtain ⟨v, hv, ev⟩ := mod_nat a hn1
      refine ⟨_, rfl, p, _, _, _, rfl, rfl, SqL.of hp, atI_nat (j := 0) rfl, _, rfl, _, _, rfl, rfl, hn0, ?_⟩
      refine ⟨_, rfl, p, _, _, _, rfl, rfl, SqL.of hp, atI_nat (j := 0) rfl, _, rfl, _, _, rfl, rfl, ⟨hn0, by omega⟩, _, rfl, p, _, 0, 0, rfl, rfl, hp, rfl, ?_⟩
      refine ⟨_, rfl, ?_⟩
      show Q (.int (a % (n : Int))) _
      rw [ev]
      exact q v _ hv ⟨fun x o e nx => by rw [upd_ne nx]; exact e, _, b, c, upd_same, hb0, hb1⟩
    · -- the count
      refine ⟨_, rfl, p, _, _, _, rfl, rfl, SqL.of hp, atI_nat (j := 2) rfl, _, _, rfl, rfl, _, rfl, p, _, 2, 2, rfl, rfl, hp, rfl, ?_⟩
      have hp' : (upd H p (.lst [.int a, .int b, .int (c + 1)])) p = some (.lst [.int a, .int b, .int (c + 1)]) := upd_same
      have d' : Dr p H (upd H p (.lst [.int a, .int b, .int (c + 1)])) := ⟨fun x o e nx => by rw [upd_ne nx]; exact e, a, b, c + 1, upd_same, hb0, hb1⟩
      -- the number, twice
      refine ⟨_, rfl, p, _, _, _, rfl, rfl, SqL.of hp', atI_nat (j := 1) rfl, _, _, rfl, rfl, .inl ⟨by omega, by omega⟩, _, rfl, p, _, _, _, rfl, rfl, SqL.of hp', atI_nat (j := 2) rfl, _, _, rfl, rfl, .inl ⟨by decide, by decide⟩, _, _, rfl, rfl, _, _, rfl, rfl, _, _, rfl, rfl, (by show (0 : Int) < 2147483647; decide), ?_⟩
      have b1 := Int.emod_nonneg (b * 48271 + 7919 * (c + 1) + 101) (show (2147483647 : Int) ≠ 0 by decide)
      have b2 := Int.emod_lt_of_pos (b * 48271 + 7919 * (c + 1) + 101) (show (0 : Int) < 2147483647 by decide)
      refine ⟨_, rfl, _, rfl, _, _, rfl, rfl, .inl ⟨by omega, by omega⟩, _, rfl, p, _, _, _, rfl, rfl, SqL.of hp', atI_nat (j := 2) rfl, _, _, rfl, rfl, .inl ⟨by decide, by decide⟩, _, _, rfl, rfl, _, _, rfl, rfl, _, _, rfl, rfl, (by show (0 : Int) < 2147483629; decide), ?_⟩
      have b3 := Int.emod_nonneg ((b * 48271 + 7919 * (c + 1) + 101) % 2147483647 * ((b * 48271 + 7919 * (c + 1) + 101) % 2147483647) + 104729 * (c + 1) + 7) (show (2147483629 : Int) ≠ 0 by decide)
      have b4 := Int.emod_lt_of_pos ((b * 48271 + 7919 * (c + 1) + 101) % 2147483647 * ((b * 48271 + 7919 * (c + 1) + 101) % 2147483647) + 104729 * (c + 1) + 7) (show (0 : Int) < 2147483629 by decide)
      refine ⟨_, rfl, _, rfl, _, _, rfl, rfl, .inl ⟨by omega, by omega⟩, _, _, rfl, rfl, (by show (0 : Int) < 2147483587; decide), _, rfl, _, _, rfl, rfl, hn0, ?_⟩
      obtain ⟨v, hv, ev⟩ := mod_nat (((b * 48271 + 7919 * (c + 1) + 101) % 2147483647 * ((b * 48271 + 7919 * (c + 1) + 101) % 2147483647) + 104729 * (c + 1) + 7) % 2147483629 * (((b * 48271 + 7919 * (c + 1) + 101) % 2147483647 * ((b * 48271 + 7919 * (c + 1) + 101) % 2147483647) + 104729 * (c + 1) + 7) % 2147483629) % 2147483587) hn1
      have last := q v _ hv d'
      rw [← ev] at last
      exact last
/-! ### _law_many -/
def spMany : Sp := fun vs H Q _ => ∃ p : Addr, vs = [.ref p] ∧ BoxAt H p ∧ ∀ (m : Nat) (H' : Hp), 16 ≤ m → m ≤ 240 → Dr p H H' → Q (.int (m : Int)) H'
theorem ok_many {f fT : Addr} {fd fdT : FuncData} {k : Nat} (F : Fun K "_law_many" "_law_many" sMany f fd) (GT : FnOk P w K mg base CX0 (k + 1) fT fdT ["_law_box_here", "_law_many_here"] spTake) (kT : PySem.W.keepIn K (.ref fT) = true) (bT : Binds K fdT ["_law_box_here", "_law_many_here"] []) (mT : mg "_law_take" = some (.ref fT)) :
    FnOk P w K mg base CX0 (k + 2) f fd ["_law_box_here"] spMany := by
  refine F.ok scMany (fun vs H Q E h => ?_) (fun cdv A outer s H vs Q E hr h => ?_)
  · obtain ⟨p, rfl, _⟩ := h
    rfl
  · obtain ⟨p, rfl, hb, q⟩ := h
    refine ⟨_, pss_one (ps_ret (pe_ix ix_list (pe_lst (pa_cons pe_int (pa_cons pe_int (pa_cons (pe_op op_add pe_int (pe_call GT hr (by rfl) mT kT bT .nil pass0 (pa_cons (pv 0) (pa_cons pe_int pa_nil)))) (pa_cons (pe_op op_add pe_int (pe_call GT hr (by rfl) mT kT bT .nil pass0 (pa_cons (pv 0) (pa_cons pe_int pa_nil)))) pa_nil)))))
      (pe_call GT hr (by rfl) mT kT bT .nil pass0 (pa_cons (pv 0) (pa_cons pe_int pa_nil))) (fun _ _ => rfl))), ?_⟩
    refine ⟨_, rfl, p, 45, rfl, by decide, by decide, hb, fun v1 H1 h1 d1 => ⟨_, _, rfl, rfl, _, rfl, p, 225, rfl, by decide, by decide, d1.2, fun v2 H2 h2 d2 => ⟨_, _, rfl, rfl, (by show 4 ≤ sizeLine; decide), fun l hl => ?_⟩⟩⟩
    have d3 : Dr p H2 (upd H2 l (.lst [.int 16, .int 240, .int (16 + (v1 : Int)), .int (16 + (v2 : Int))])) := .new d2.2 hl
    have npl := d2.2.ne hl
    refine ⟨_, rfl, p, 4, rfl, by decide, by decide, d3.2, fun v3 H3 h3 d4 => ?_⟩
    have hl3 : H3 l = some (.lst [.int 16, .int 240, .int (16 + (v1 : Int)), .int (16 + (v2 : Int))]) := d4.1 _ _ upd_same npl.symm
    have d := d1.trans (d2.trans (d3.trans d4))
    match v3, h3 with
    | 0, _ => exact ⟨l, _, _, _, rfl, rfl, SqL.of hl3, atI_nat (j := 0) rfl, q 16 H3 (by decide) (by decide) d⟩
    | 1, _ => exact ⟨l, _, _, _, rfl, rfl, SqL.of hl3, atI_nat (j := 1) rfl, q 240 H3 (by decide) (by decide) d⟩
    | 2, _ =>
      refine ⟨l, _, _, _, rfl, rfl, SqL.of hl3, atI_nat (j := 2) rfl, ?_⟩
      have last := q (16 + v1) H3 (by omega) (by omega) d
      rw [Int.natCast_add] at last
      exact last
    | 3, _ =>
      refine ⟨l, _, _, _, rfl, rfl, SqL.of hl3, atI_nat (j := 3) rfl, ?_⟩
      have last := q (16 + v2) H3 (by omega) (by omega) d
      rw [Int.natCast_add] at last
      exact last
end
end K15

namespace K15
open PySem PySem.Spec PyProof.Rows L2 TL

/-! ### data that is compared -/
def dRow (r : Rw) : PyData := .tuple [.str r.nm, .int (r.st : Int), .int (r.sz : Int), .int (r.pn : Int)]
inductive Item (H : Hp) : V → PyData → Prop
  | str (z : Str) (h : PyData.strOk z = true) : Item H (.str z) (.str z)
  | row {x : V} {r : Rw} (h : RowAt H x r) (k : PyData.strOk r.nm = true) : Item H x (dRow r)
theorem RowAt.dr {p : Addr} {H H' : Hp} {x : V} {r : Rw} (hb : BoxAt H p) (d : Dr p H H') (h : RowAt H x r) : RowAt H' x r :=
  let ⟨t, a, b⟩ := h
  let ⟨_, _, _, e, _⟩ := hb
  ⟨t, a, d.1 _ _ b (ne_of b e (by intro z; cases z))⟩
theorem Item.dr {p : Addr} {H H' : Hp} {x : V} {y : PyData} (hb : BoxAt H p) (d : Dr p H H') (h : Item H x y) : Item H' x y := by
  cases h with
  | str z h => exact .str z h
  | row h k => exact .row (h.dr hb d) k
theorem Item.same {H H' : Hp} {x : V} {y : PyData} (e : Same H H') (h : Item H x y) : Item H' x y := by
  cases h with
  | str z h => exact .str z h
  | row h k => exact .row (h.same e) k
theorem Item.dp {K : PySem.W.Frag} {H : Hp} {x : V} {y : PyData} (h : Item H x y) : Dp K H x y ∧ y.canLay0 = true ∧ y.depth ≤ 1 := by
  cases h with
  | str z h => exact ⟨.str z, by rw [PyData.canLay0]; exact h, by simp [PyData.depth]⟩
  | row h k =>
    obtain ⟨t, rfl, ht⟩ := h
    refine ⟨.tup (SqT.of ht) (.cons (.str _) (.cons (.int _) (.cons (.int _) (.cons (.int _) .nil)))), ?_, ?_⟩
    · unfold dRow
      simp [PyData.canLay0, PyData.canLayAll0, k]
    · unfold dRow
      simp [PyData.depth, PyData.depthAll]
theorem items_all {K : PySem.W.Frag} {H : Hp} : ∀ (xs : List V), (∀ x ∈ xs, ∃ d, Item H x d) → ∃ ds, DpAll K H xs ds ∧ PyData.canLayAll0 ds = true ∧ PyData.depthAll ds ≤ 1 ∧ ds.length = xs.length
  | [], _ => ⟨[], .nil, by simp [PyData.canLayAll0], by simp [PyData.depthAll], rfl⟩
  | x :: xs, h => by
    obtain ⟨d, hd⟩ := h x (by simp)
    obtain ⟨ds, h1, h2, h3, h4⟩ := items_all xs fun y hy => h y (List.mem_cons_of_mem _ hy)
    obtain ⟨k1, k2, k3⟩ := hd.dp (K := K)
    refine ⟨d :: ds, .cons k1 h1, by rw [PyData.canLayAll0, k2, h2]; rfl, ?_, by rw [List.length_cons, List.length_cons, h4]⟩
    rw [PyData.depthAll]
    omega
theorem shaped_list {ds : List PyData} (h1 : PyData.canLayAll0 ds = true) (h2 : PyData.depthAll ds ≤ 1) : SeqAt.shaped (.list ds) = true := by
  unfold SeqAt.shaped
  rw [PyData.canLay0, h1, PyData.depth, Bool.true_and]
  exact decide_eq_true (by omega)
theorem eqv_nil {ds : List PyData} : PyData.eqv (.list ds) (.list []) = decide (ds.length = 0) := by
  cases ds with
  | nil => simp [PyData.eqv, PyData.eqvAll]
  | cons d ds => simp [PyData.eqv, PyData.eqvAll]
section
variable {P : Program} {w : World} {K : PySem.W.Frag} {mg : Str → Option Value} {base : Heap}
/-! ### _law_mixed -/
def spMixed : Sp := fun vs H Q _ => ∃ (p l : Addr) (xs : List V), vs = [.ref p, .ref l] ∧ BoxAt H p ∧ H l = some (.lst xs) ∧ xs.length ≤ 100 ∧ (∀ x ∈ xs, ∃ d, Item H x d) ∧
  ∀ (ys : List V) (f : Addr) (H' : Hp), ys.Perm xs → Dr p H H' → H f = none → H' f = some (.lst ys) → Q (.ref f) H'
theorem ok_mixed {f fT : Addr} {fd fdT : FuncData} {k : Nat} (F : Fun K "_law_mixed" "_law_mixed" sMixed f fd) (mT : mg "list" = none) (mL : mg "len" = none)
    (GT : FnOk P w K mg base CX0 (k + 1) fT fdT ["_law_box_here", "_law_many_here"] spTake) (kT : PySem.W.keepIn K (.ref fT) = true) (bT : Binds K fdT ["_law_box_here", "_law_many_here"] []) (mTk : mg "_law_take" = some (.ref fT)) :
    FnOk P w K mg base CX0 (k + 2) f fd ["_law_box_here", "_law_some"] spMixed := by
  refine F.ok scMixed (fun vs H Q E h => ?_) (fun cdv A outer s H vs Q E hr h => ?_)
  · obtain ⟨p, l, xs, rfl, _⟩ := h
    rfl
  · obtain ⟨p, l, xs, rfl, hb, hl, hlen, hit, q⟩ := h
    refine ⟨_, pss_cons (ps_set (i := 2) scMixed.nd rfl (.inl rfl) (pe_callTy call_list_of (by rfl) mT (by decide +kernel) (pa_cons (pv 1) pa_nil)))
      (pss_cons (ps_set (i := 3) scMixed.nd rfl (.inl rfl) (pe_lst pa_nil))
      (pss_cons (ps_while PassesOwn.never (pt_cmpR (op_neD hr.units) (pv 2) (pe_lst pa_nil) (nomark _))
        (pss_one (ps_expr (pe_bm PySem.F.plainAttrs_list PySem.F.slot_list_append PySem.F.type_list_append mt_append (pv 3) (pa_cons
          (pe_bm PySem.F.plainAttrs_list PySem.F.slot_list_pop PySem.F.type_list_pop mt_popAt (pv 2) (pa_cons
            (pe_call GT hr (by rfl) mTk kT bT .nil pass0 (pa_cons (pv 0) (pa_cons (pe_callB call_len_seq (by rfl) mL PySem.boot_len (pa_cons (pv 2) pa_nil)) pa_nil))) pa_nil)) pa_nil)))))
      (pss_one (ps_ret (pv 3))))), ?_⟩
    refine ⟨_, rfl, l, _, rfl, .inl (SqL.of hl), fun a ha => ?_⟩
    have d1 : Dr p H (upd H a (.lst xs)) := .new hb ha
    refine ⟨Nat.zero_le _, fun b hb2 => ?_⟩
    have nab : a ≠ b := by
      rintro rfl
      rw [upd_same] at hb2
      cases hb2
    have d2 : Dr p H (upd (upd H a (.lst xs)) b (.lst [])) := d1.trans (.new d1.2 hb2)
    have hb0 : H b = none := d1.free hb hb2
    have npa := hb.ne ha
    have npb := hb.ne hb0
    refine ⟨fun m σ H' => ∃ left found : List V, σ = [some (.ref p), some (.ref l), some (.ref a), some (.ref b)] ∧ Dr p H H' ∧ H' a = some (.lst left) ∧ H' b = some (.lst found) ∧ (found ++ left).Perm xs ∧ m = left.length,
      ⟨xs.length, xs, [], rfl, d2, by rw [upd_ne nab]; exact upd_same, upd_same, .refl _, rfl⟩, ?_⟩
    rintro m σ H' ⟨left, found, rfl, d, ha', hb', pm, rfl⟩
    have hle := pm.length_eq
    rw [List.length_append] at hle
    -- the test
    refine ⟨_, rfl, Nat.zero_le _, fun c hc => ?_⟩
    have sc : Same H' (upd H' c (.lst [])) := same_new hc
    obtain ⟨ds, k1, k2, k3, k4⟩ := items_all (K := K) (H := upd H' c (.lst [])) left fun x hx => by
      obtain ⟨e, he⟩ := hit x (pm.mem_iff.mp (List.mem_append.mpr (.inr hx)))
      exact ⟨e, (he.dr hb d).same sc⟩
    refine ⟨.list ds, .list [], .lst (SqL.of (sc _ _ ha')) k1, .lst (SqL.of upd_same) .nil, shaped_list k2 k3, by decide, ?_⟩
    rw [eqv_nil, k4]
    refine ⟨_, rfl, ?_⟩
    by_cases h0 : left.length = 0
    · rw [decide_eq_true h0]
      refine iteF ⟨_, rfl, ?_⟩
      have e : left = [] := List.length_eq_zero_iff.mp h0
      rw [e, List.append_nil] at pm
      exact q found b _ pm (d.trans (.new d.2 hc)) hb0 (sc _ _ hb')
    · rw [decide_eq_false h0]
      refine iteT ⟨fun σ' H'' => ∃ left' found' : List V, σ' = [some (.ref p), some (.ref l), some (.ref a), some (.ref b)] ∧ Dr p H H'' ∧ H'' a = some (.lst left') ∧ H'' b = some (.lst found') ∧ (found' ++ left').Perm xs ∧ left'.length + 1 = left.length,
        fun σ' H'' ⟨left', found', e1, e2, e3, e4, e5, e6⟩ => ⟨left'.length, by omega, left', found', e1, e2, e3, e4, e5, rfl⟩, ?_⟩
      have d3 : Dr p H' (upd H' c (.lst [])) := .new d.2 hc
      refine ⟨_, rfl, .inl ⟨rfl, _, SqL.of (sc _ _ hb')⟩, _, rfl, .inl ⟨rfl, _, SqL.of (sc _ _ ha')⟩, _, rfl, _, rfl, a, left, rfl, .inl (SqL.of (sc _ _ ha')), p, left.length, rfl, by omega, by omega, d3.2, fun v H3 hv d4 => ?_⟩
      have ha3 := d4.1 _ _ (sc _ _ ha') npa.symm
      have hb3 := d4.1 _ _ (sc _ _ hb') npb.symm
      have hx : left[v]? = some left[v] := List.getElem?_eq_getElem hv
      refine ⟨a, left, (v : Int), v, left[v], rfl, rfl, ha3, by omega, by omega, ?_, hx, ?_⟩
      · unfold seqIndex?
        have e1 : ¬ ((v : Int) < 0) := by omega
        have e2 : (v : Int) < (left.length : Int) := by omega
        simp [e1, e2]
      · have hb4 : (upd H3 a (.lst (left.eraseIdx v))) b = some (.lst found) := by rw [upd_ne nab.symm]; exact hb3
        refine ⟨b, found, _, rfl, rfl, hb4, small1000 (by omega), left.eraseIdx v, found ++ [left[v]], rfl, ?_, by rw [upd_ne nab]; exact upd_same, upd_same, perm_step pm hx, ?_⟩
        · exact ((d.trans (d3.trans d4)).put ha npa.symm).put hb0 npb.symm
        · rw [List.length_eraseIdx_of_lt hv]
          omega
/-! ### _law_row_text -/
def spRText : Sp := fun vs H Q _ => ∃ (t : Addr) (r : Rw) (many : Nat), vs = [.ref t] ∧ H t = some (.tup (rowV r)) ∧ RowOk many r ∧ many ≤ 240 ∧ ∀ H', Same H H' → Q (.str (rowText r)) H'
theorem row_sum {many : Nat} {r : Rw} (hm : many ≤ 240) (h : RowOk many r) : ((r.nm :: restWords r).map (·.length)).sum + (r.nm :: restWords r).length * sp.length ≤ 16777216 := by
  have a := sum_len (parts := r.nm :: restWords r) (m := 8) (fun p hp => by
    rcases List.mem_cons.mp hp with rfl | hp
    · exact h.nm.len.2
    · exact restWords_short hm h p hp)
  have b := restWords_len r
  rw [List.length_cons] at a ⊢
  rw [sp_len]
  omega
theorem ok_rtext {f : Addr} {fd : FuncData} {k : Nat} (F : Fun K "_law_row_text" "_law_row_text" sRText f fd) (mS : mg "str" = none) : FnOk P w K mg base CX0 (k + 1) f fd ["_law_row"] spRText := by
  refine F.ok scRText (fun vs H Q E h => ?_) (fun cdv A outer s H vs Q E hr h => ?_)
  · obtain ⟨t, r, many, rfl, _⟩ := h
    rfl
  · obtain ⟨t, r, many, rfl, ht, ok, hm, q⟩ := h
    refine ⟨_, pss_cons (ps_set (i := 1) scRText.nd rfl (.inl rfl) (pe_lst (pa_cons (pe_ix ix_tup (pv 0) pe_int (fun _ _ => rfl)) (pa_cons pe_str (pa_cons (pe_callTy call_str_int (by rfl) mS (by decide +kernel) (pa_cons (pe_ix ix_tup (pv 0) pe_int (fun _ _ => rfl)) pa_nil)) (pa_cons pe_str (pa_cons (pe_callTy call_str_int (by rfl) mS (by decide +kernel) (pa_cons (pe_ix ix_tup (pv 0) pe_int (fun _ _ => rfl)) pa_nil)) pa_nil)))))))
      (pss_cons (ps_if (pt_cmpR op_ne (pe_ix ix_tup (pv 0) pe_int (fun _ _ => rfl)) pe_int (nomark _)) (pss_one (ps_set (i := 1) scRText.nd rfl (.inl rfl) (pe_op op_cat (pv 1) (pe_lst (pa_cons pe_str (pa_cons (pe_callTy call_str_int (by rfl) mS (by decide +kernel) (pa_cons (pe_ix ix_tup (pv 0) pe_int (fun _ _ => rfl)) pa_nil)) pa_nil)))))) pss_nil)
      (pss_one (ps_ret (pe_join pe_str (pv 1))))), ?_⟩
    have h3 := ok.en
    have h4 := ok.pn
    refine ⟨_, rfl, t, rowV r, _, _, rfl, rfl, SqT.of ht, atI_nat (j := 0) rfl, _, rfl, t, rowV r, _, _, rfl, rfl, SqT.of ht, atI_nat (j := 1) rfl, _, rfl, log_small (by omega), _, rfl, t, rowV r, _, _, rfl, rfl, SqT.of ht, atI_nat (j := 2) rfl, _, rfl, log_small (by omega), (by show 5 ≤ sizeLine; decide), fun a ha => ?_⟩
    have s1 : Same H (upd H a (.lst [.str r.nm, .str wAt, .str (num r.st), .str wSize, .str (num r.sz)])) := same_new ha
    have ha1 : (upd H a (.lst [.str r.nm, .str wAt, .str (num r.st), .str wSize, .str (num r.sz)])) a = some (.lst [.str r.nm, .str wAt, .str (num r.st), .str wSize, .str (num r.sz)]) := upd_same
    refine ⟨_, rfl, t, _, _, _, rfl, rfl, SqT.of (s1 _ _ ht), atI_nat (j := 3) rfl, rfl, ?_⟩
    have sum := row_sum hm ok
    by_cases hp0 : r.pn = 0
    · refine ⟨false, nT (by rw [hp0]; rfl), iteF ?_⟩
      refine ⟨⟨_, rfl⟩, _, rfl, sp, a, r.nm :: restWords r, rfl, rfl, .inl (SqL.of ?_), sum, q _ s1⟩
      unfold restWords
      rw [if_pos hp0]
      exact ha1
    · refine ⟨true, nF (by intro z; exact hp0 (by have := V.int.inj z; omega)), iteT ?_⟩
      refine ⟨_, rfl, _, rfl, t, _, _, _, rfl, rfl, SqT.of (s1 _ _ ht), atI_nat (j := 3) rfl, _, rfl, log_small h4, (by show 2 ≤ sizeLine; decide), fun b hb => ?_⟩
      have s2 : Same (upd H a (.lst [.str r.nm, .str wAt, .str (num r.st), .str wSize, .str (num r.sz)])) (upd (upd H a (.lst [.str r.nm, .str wAt, .str (num r.st), .str wSize, .str (num r.sz)])) b (.lst [.str wPins, .str (num r.pn)])) := same_new hb
      refine ⟨a, b, _, _, rfl, rfl, s2 _ _ ha1, upd_same, (by show 5 + 2 ≤ sizeLine; decide), fun c hc => ?_⟩
      refine ⟨⟨_, rfl⟩, _, rfl, sp, c, r.nm :: restWords r, rfl, rfl, .inl (SqL.of ?_), sum, q _ (s1.trans (s2.trans (same_new hc)))⟩
      unfold restWords
      rw [if_neg hp0]
      exact upd_same
end
end K15

namespace K15
open PySem PySem.Spec PyProof.Rows L2 TL

/-! ### texts by signs -/
theorem tl_one (c : Nat) : tl (⟨#[c]⟩ : Str) = [c] := rfl
theorem joinL_ones : ∀ zs : List Nat, joinL [] (zs.map fun c => [c]) = zs
  | [] => rfl
  | [_] => rfl
  | a :: b :: r => by
    show [a] ++ ([] ++ joinL [] ((b :: r).map fun c => [c])) = a :: b :: r
    rw [joinL_ones (b :: r)]
    rfl
def emptyT : Str := ""
theorem tl_join_ones (zs : List Nat) : tl (Txt.join emptyT (zs.map fun c => (⟨#[c]⟩ : Str))) = zs := by
  rw [join_eq, tl_join, List.map_map, show tl emptyT = [] by decide +kernel]
  exact joinL_ones zs
theorem sum_ones (zs : List Nat) : ((zs.map fun c => (⟨#[c]⟩ : Str)).map (·.length)).sum = zs.length := by
  induction zs with
  | nil => rfl
  | cons a r ih =>
    rw [List.map_cons, List.map_cons, List.sum_cons, ih, List.length_cons]
    show 1 + r.length = r.length + 1
    omega
theorem tl_cut (z : Str) (k : Nat) : tl (cutS z none (some (k : Int))) = (tl z).take k := by
  unfold cutS
  rw [HT.sIx_none, HT.sIx_nat]
  show (List.take (min k z.length - 0) (List.drop 0 z.cps.toList)) = _
  rw [List.drop_zero, Nat.sub_zero, len_tl]
  by_cases h : k ≤ (tl z).length
  · rw [Nat.min_eq_left h]
  · rw [Nat.min_eq_right (by omega), List.take_length, List.take_of_length_le (by omega)]
theorem lets_at {j : Nat} (h : j < 26) : lets.cps.toList[j]? = some (97 + j) := by
  rw [show lets.cps.toList = (List.range 26).map (97 + ·) from tl_lets, List.getElem?_map, List.getElem?_range h]
  rfl
theorem drawn_at {j : Nat} (h : j < 8) : ∃ c, drawn.cps.toList[j]? = some c ∧ c ∈ tl drawn := by
  have e : (tl drawn).length = 8 := by rw [tl_drawn]; rfl
  have hj : j < (tl drawn).length := by omega
  exact ⟨(tl drawn)[j], List.getElem?_eq_getElem hj, List.getElem_mem _⟩
theorem snoc_all {α : Type} {P : Nat → α → Prop} {l : List α} {x : α} (h : ∀ j z, l[j]? = some z → P j z) (hx : P l.length x) : ∀ j z, (l ++ [x])[j]? = some z → P j z := by
  intro j z e
  by_cases hj : j < l.length
  · rw [List.getElem?_append_left hj] at e
    exact h j z e
  · rw [List.getElem?_append_right (by omega)] at e
    have h0 : j - l.length = 0 := by
      have := (List.getElem?_eq_some_iff.mp e).1
      rw [List.length_singleton] at this
      omega
    rw [h0] at e
    have e2 : x = z := Option.some.inj e
    have e3 : j = l.length := by omega
    rw [← e2, e3]
    exact hx
def xs26 (k : Nat) : Str := if k = 0 then Str.empty else ("x" : Str)
theorem xs26_tl {k : Nat} (h : k ≤ 1) : tl (xs26 k) = List.replicate k 120 ∧ (xs26 k).length ≤ 1 := by
  match k, h with
  | 0, _ => exact ⟨rfl, by decide⟩
  | 1, _ => exact ⟨by decide +kernel, by decide +kernel⟩
section
variable {P : Program} {w : World} {K : PySem.W.Frag} {mg : Str → Option Value} {base : Heap}
/-! ### _law_names -/
def spNames : Sp := fun vs H Q _ => ∃ (p : Addr) (n : Nat), vs = [.ref p, .int (n : Int)] ∧ n ≤ 40 ∧ BoxAt H p ∧
  ∀ (ns : List Str) (l : Addr) (H' : Hp), ns.length = n → (∀ z ∈ ns, NameOk z) → ns.Nodup → Dr p H H' → H l = none → H' l = some (.lst (ns.map V.str)) → Q (.ref l) H'
theorem ok_names {f fT : Addr} {fd fdT : FuncData} {k : Nat} (F : Fun K "_law_names" "_law_names" sNames f fd) (mR : mg "range" = none)
    (GT : FnOk P w K mg base CX0 (k + 1) fT fdT ["_law_box_here", "_law_many_here"] spTake) (kT : PySem.W.keepIn K (.ref fT) = true) (bT : Binds K fdT ["_law_box_here", "_law_many_here"] []) (mTk : mg "_law_take" = some (.ref fT)) :
    FnOk P w K mg base CX0 (k + 2) f fd ["_law_box_here", "_law_many_here"] spNames := by
  refine F.ok scNames (fun vs H Q E h => ?_) (fun cdv A outer s H vs Q E hr h => ?_)
  · obtain ⟨p, n, rfl, _⟩ := h
    rfl
  · obtain ⟨p, n, rfl, hn, hb, q⟩ := h
    refine ⟨_, pss_cons (ps_set (i := 2) scNames.nd rfl (.inr rfl) pe_str)
      (pss_cons (ps_set (i := 4) scNames.nd rfl (.inr rfl) (pe_join pe_str (pe_lc (own := [("_law_k", 3)]) (g := gName 3) (tt := tYes) rfl scNames.nd (pi_range1 (by rfl) mR (pa_cons pe_int pa_nil)) (blkOk_by (own := [("_law_k", 3)]) (N := ["_law_box_here", "_law_many_here", "_law_letters", "_law_k", "_law_tail", "_law_shift", "_law_names_here", "_law_name"]) (sc := defScope sNames) (by decide +kernel))
          (fun _ _ _ _ _ => pg_name (i := 3) scNames.nd rfl (Or.inl rfl)) (fun _ _ _ _ _ => pts_nil)
          (fun _ _ _ _ _ => pe_ix ix_str pe_str (pe_call GT hr (by rfl) mTk kT bT .nil pass0 (pa_cons (pv 0) (pa_cons pe_int pa_nil))) (fun _ _ => rfl)))))
      (pss_cons (ps_set (i := 5) scNames.nd rfl (.inr rfl) (pe_call GT hr (by rfl) mTk kT bT .nil pass0 (pa_cons (pv 0) (pa_cons pe_int pa_nil))))
      (pss_cons (ps_if (pt_cmpR op_eq (pe_call GT hr (by rfl) mTk kT bT .nil pass0 (pa_cons (pv 0) (pa_cons pe_int pa_nil))) pe_int (nomark _))
        (pss_one (ps_ret (pe_lc (own := [("_law_k", 3)]) (g := gName 3) (tt := tYes) rfl scNames.nd (pi_range1 (by rfl) mR (pa_cons (pv 1) pa_nil)) (blkOk_by (own := [("_law_k", 3)]) (N := ["_law_box_here", "_law_many_here", "_law_letters", "_law_k", "_law_tail", "_law_shift", "_law_names_here", "_law_name"]) (sc := defScope sNames) (by decide +kernel))
          (fun _ _ _ _ _ => pg_name (i := 3) scNames.nd rfl (Or.inl rfl)) (fun _ _ _ _ _ => pts_nil)
          (fun _ _ _ _ _ => pe_op op_add_str (pe_ix ix_str (pv 2) (pe_op op_mod (pe_op op_add (pv 5) (pe_op op_fdiv (pv 3) pe_int)) pe_int) (fun _ _ => rfl)) (pe_slice sl_str (pv 4) po_none (po_some (pe_op op_mod (pv 3) pe_int))))))) pss_nil)
      (pss_cons (ps_set (i := 6) scNames.nd rfl (.inl rfl) (pe_lst pa_nil))
      (pss_cons (ps_for PassesOwn.never rfl (pi_range1 (by rfl) mR (pa_cons (pv 1) pa_nil)) (pg_name (i := 3) scNames.nd rfl (Or.inl rfl))
        (pss_cons (ps_set (i := 7) scNames.nd rfl (.inl rfl) (pe_op op_add_str (pe_ix ix_str (pv 2) (pe_op op_mod (pe_op op_add (pv 5) (pe_op op_mul pe_int (pv 3))) pe_int) (fun _ _ => rfl)) (pe_op op_mul_str1 pe_str (pe_op op_fdiv (pv 3) pe_int))))
        (pss_one (ps_expr (pe_bm PySem.F.plainAttrs_list PySem.F.slot_list_append PySem.F.type_list_append mt_append (pv 6) (pa_cons
          (pe_op op_add_str (pv 7) (pe_slice sl_str (pv 4) po_none (po_some (pe_call GT hr (by rfl) mTk kT bT .nil pass0 (pa_cons (pv 0) (pa_cons (pe_op op_sub pe_int (pe_op op_fdiv (pv 3) pe_int)) pa_nil)))))) pa_nil))))))
      (pss_one (ps_ret (pv 6)))))))), ?_⟩
    -- the tail
    refine ⟨⟨_, rfl⟩, 7, rfl, by decide, by decide, fun D hD => lc_range (lo := 0) (n := 7) (fun i H' => Dr p H H' ∧ ∃ zs : List Nat, zs.length = i ∧ (∀ c ∈ zs, c ∈ tl drawn) ∧ H' D = some (.lst ((zs.map fun c => (⟨#[c]⟩ : Str)).map V.str)))
      ⟨.new hb hD, [], rfl, fun _ h => (nomatch h), upd_same⟩ ?_ ?_⟩
    · rintro i H' hi ⟨d, zs, hz, hall, hd⟩
      refine ⟨rfl, ?_⟩
      have npD := hb.ne hD
      refine ⟨_, rfl, p, 8, rfl, by decide, by decide, d.2, fun v H2 hv d2 => ?_⟩
      obtain ⟨c, hc, hcm⟩ := drawn_at hv
      refine ⟨drawn, _, c, rfl, rfl, by decide +kernel, atI_nat (j := v) hc, _, d2.1 _ _ hd npD.symm, ?_, (d.trans d2).put hD npD.symm, zs ++ [c], ?_, ?_, ?_⟩
      · rw [List.length_map, List.length_map]
        exact small1000 (by omega)
      · rw [List.length_append, List.length_singleton, hz]
      · intro e he
        rcases List.mem_append.mp he with he | he
        · exact hall e he
        · rw [List.mem_singleton.mp he]
          exact hcm
      · refine upd_same.trans ?_
        rw [List.map_append, List.map_append]
        rfl
    · rintro H1 ⟨d1, zs, hz, hall, hd⟩
      refine ⟨emptyT, D, zs.map fun c => (⟨#[c]⟩ : Str), rfl, rfl, .inl (SqL.of hd), ?_, ?_⟩
      · rw [sum_ones, List.length_map, hz, show emptyT.length = 0 by decide +kernel]
        decide
      have etail := tl_join_ones zs
      generalize htail : Txt.join emptyT (zs.map fun c => (⟨#[c]⟩ : Str)) = tail at etail
      have T : TailOk tail := ⟨by rw [len_tl, etail]; exact hz, by rw [etail]; exact hall⟩
      have hts : tail.length ≤ sizeLine := by rw [T.len]; decide
      show tSeq _ _ _ [some (.ref p), some (.int (n : Int)), some (.str lets), none, some (.str tail), none, none, none] H1
      -- the shift
      refine ⟨_, rfl, p, 26, rfl, by decide, by decide, d1.2, fun sh H2 hsh d2 => ?_⟩
      refine ⟨_, rfl, p, 3, rfl, by decide, by decide, d2.2, fun v3 H3 hv3 d3 => ?_⟩
      have d03 := d1.trans (d2.trans d3)
      refine ⟨rfl, _, rfl, ite2 (fun _ => ?_) (fun _ => ?_)⟩
      · -- the first kind
        refine ⟨_, rfl, (n : Int), rfl, by omega, by omega, fun L hL => ?_⟩
        rw [Int.toNat_natCast]
        have hL0 := d03.free hb hL
        have npL := hb.ne hL0
        refine lc_range (lo := 0) (n := n) (fun i H' => Dr p H H' ∧ ∃ ns : List Str, ns.length = i ∧ (∀ j z, ns[j]? = some z → tl z = nameA sh tail j) ∧ H' L = some (.lst (ns.map V.str)))
          ⟨d03.put hL0 npL.symm, [], rfl, fun j z h => by simp at h, upd_same⟩ ?_ ?_
        · rintro i H' hi ⟨d, ns, hl, hall2, hd2⟩
          refine ⟨rfl, ?_⟩
          have eA : ((sh : Int) + (0 + (i : Int)) / 8) % 26 = (((sh + i / 8) % 26 : Nat) : Int) := by omega
          refine ⟨_, rfl, _, rfl, _, rfl, _, _, rfl, rfl, ⟨by decide, by decide⟩, _, _, rfl, rfl, _, _, rfl, rfl, (by show (0 : Int) < 26; decide), lets, _, 97 + (sh + i / 8) % 26, rfl, rfl, by decide +kernel, eA ▸ atI_nat (j := (sh + i / 8) % 26) (lets_at (by omega)), ?_⟩
          refine ⟨_, rfl, _, rfl, _, _, rfl, rfl, (by show (0 : Int) < 8; decide), _, rfl, tail, rfl, hts, ?_⟩
          have e8 : (0 + (i : Int)) % 8 = ((i % 8 : Nat) : Int) := by omega
          refine ⟨_, _, rfl, rfl, ?_, ?_⟩
          · have := cutS_length tail none (some ((0 + (i : Int)) % 8))
            rw [T.len] at this
            have e1 : (⟨#[97 + (sh + i / 8) % 26]⟩ : Str).length = 1 := rfl
            exact szl (by omega)
          · refine ⟨_, hd2, ?_, d.put hL0 npL.symm, ns ++ [⟨#[97 + (sh + i / 8) % 26]⟩ ++ cutS tail none (some ((0 + (i : Int)) % 8))], ?_, snoc_all hall2 ?_, ?_⟩
            · rw [List.length_map]
              exact small1000 (by omega)
            · rw [List.length_append, List.length_singleton, hl]
            · rw [tl_append, e8, tl_cut, tl_one, hl]
              rfl
            · refine upd_same.trans ?_
              rw [List.map_append]
              rfl
        · rintro H' ⟨d, ns, hl, hall2, hd2⟩
          refine q ns L H' hl (fun z hz => ?_) (namesA_nd T (by omega) hall2) d hL0 hd2
          obtain ⟨j, hj, e⟩ := List.getElem_of_mem hz
          exact nameA_ok T (hall2 j z ((List.getElem?_eq_getElem hj).trans (congrArg some e)))
      · -- the second kind
        refine ⟨Nat.zero_le _, fun L hL => ?_⟩
        have hL0 := d03.free hb hL
        have npL := hb.ne hL0
        refine ⟨_, rfl, (n : Int), rfl, by omega, by omega, ?_⟩
        rw [Int.toNat_natCast]
        refine for_range (lo := 0) (n := n) (fun i σ H' => ∃ v k7, σ = [some (.ref p), some (.int (n : Int)), some (.str lets), v, some (.str tail), some (.int (sh : Int)), some (.ref L), k7] ∧ Dr p H H' ∧ ∃ ns : List Str, ns.length = i ∧ (∀ j z, ns[j]? = some z → NameOk z ∧ ∃ v, tl z = nameB sh tail j v) ∧ H' L = some (.lst (ns.map V.str)))
          ⟨none, none, rfl, d03.put hL0 npL.symm, [], rfl, fun j z h => by simp at h, upd_same⟩ ?_ ?_
        · rintro i σ H' hi ⟨v, k7, rfl, d, ns, hl, hall2, hd2⟩
          -- the letter and the x
          have eB0 : ((sh : Int) + 7 * (0 + (i : Int))) % 26 = (((sh + 7 * i) % 26 : Nat) : Int) := by omega
          refine ⟨_, rfl, _, rfl, _, rfl, _, _, rfl, rfl, .inl ⟨by decide, by decide⟩, _, _, rfl, rfl, _, _, rfl, rfl, (by show (0 : Int) < 26; decide), lets, _, 97 + (sh + 7 * i) % 26, rfl, rfl, by decide +kernel, eB0 ▸ atI_nat (j := (sh + 7 * i) % 26) (lets_at (by omega)), ?_⟩
          refine ⟨_, rfl, _, _, rfl, rfl, ⟨by decide, by decide⟩, ?_⟩
          refine ⟨("x" : Str), _, i / 26, rfl, rfl, by omega, by omega, ?_⟩
          obtain ⟨hx, hxl⟩ := xs26_tl (k := i / 26) (by omega)
          show ∃ i1 j1 : Str, V.str (⟨#[97 + (sh + 7 * i) % 26]⟩ : Str) = .str i1 ∧ V.str (xs26 (i / 26)) = .str j1 ∧ i1.length + j1.length ≤ sizeLine ∧ _
          generalize xs26 (i / 26) = x at hx hxl
          refine ⟨_, x, rfl, rfl, szl (by have e1 : (⟨#[97 + (sh + 7 * i) % 26]⟩ : Str).length = 1 := rfl; omega), ?_⟩
          have e26 : (8 : Int) - (0 + (i : Int)) / 26 = ((8 - i / 26 : Nat) : Int) := by omega
          refine ⟨_, rfl, .inl ⟨rfl, _, SqL.of hd2⟩, _, rfl, _, rfl, _, rfl, _, rfl, _, _, rfl, rfl, ⟨by decide, by decide⟩, _, _, rfl, rfl, p, 8 - i / 26, congrArg (fun z => [V.ref p, V.int z]) e26, by omega, by omega, d.2, fun u H4 hu d4 => ?_⟩
          refine ⟨_, rfl, tail, rfl, hts, _, _, rfl, rfl, ?_, ?_⟩
          · have := cutS_length tail none (some (u : Int))
            rw [T.len] at this
            rw [app_len]
            have e1 : (⟨#[97 + (sh + 7 * i) % 26]⟩ : Str).length = 1 := rfl
            exact szl (by omega)
          · have eB : tl ((⟨#[97 + (sh + 7 * i) % 26]⟩ ++ x) ++ cutS tail none (some (u : Int))) = nameB sh tail i u := by
              rw [tl_append, tl_append, tl_cut, tl_one, hx, List.append_assoc]
              rfl
            refine ⟨L, _, _, rfl, rfl, d4.1 _ _ hd2 npL.symm, ?_, ?_⟩
            · rw [List.length_map]
              exact small1000 (by omega)
            · refine ⟨_, _, rfl, (d.trans d4).put hL0 npL.symm, ns ++ [(⟨#[97 + (sh + 7 * i) % 26]⟩ ++ x) ++ cutS tail none (some (u : Int))], ?_, snoc_all hall2 ⟨nameB_ok T (by omega) hu eB, u, by rw [hl]; exact eB⟩, ?_⟩
              · rw [List.length_append, List.length_singleton, hl]
              · refine upd_same.trans ?_
                rw [List.map_append]
                rfl
        · rintro σ H' ⟨v, k7, rfl, d, ns, hl, hall2, hd2⟩
          refine ⟨_, rfl, q ns L H' hl (fun z hz => ?_) (namesB_nd T (by omega) fun j z h => (hall2 j z h).2) d hL0 hd2⟩
          obtain ⟨j, hj, e⟩ := List.getElem_of_mem hz
          exact (hall2 j z ((List.getElem?_eq_getElem hj).trans (congrArg some e))).1
end
end K15

namespace K15
open PySem PySem.Spec PyProof.Rows L2 TL

/-- a display of small numbers -/
abbrev nats (gs : List Nat) : List V := gs.map fun (n : Nat) => V.int (n : Int)
theorem nats_at {gs : List Nat} {v : Nat} (h : v < gs.length) : ∃ g, g ∈ gs ∧ atI (nats gs) (v : Int) = some (.int (g : Int)) := by
  refine ⟨gs[v], List.getElem_mem _, atI_nat ?_⟩
  rw [List.getElem?_map, List.getElem?_eq_getElem h]
  rfl
theorem min_nat (a b : Nat) : (if (b : Int) < (a : Int) then (b : Int) else (a : Int)) = ((min a b : Nat) : Int) := by
  split <;> omega
theorem RowsAt.dr {p : Addr} {H H' : Hp} {xs : List V} {rs : List Rw} (hb : BoxAt H p) (d : Dr p H H') (h : RowsAt H xs rs) : RowsAt H' xs rs := Paired.mapP h fun _ _ k => k.dr hb d
/-- what the loop of _law_rows keeps in the heap -/
structure Keep (p nl rl : Addr) (ns : List Str) (xs : List V) (rs : List Rw) (H : Hp) : Prop where
  box : BoxAt H p
  names : H nl = some (.lst (ns.map V.str))
  rows : H rl = some (.lst xs)
  at_ : RowsAt H xs rs
  n1 : nl ≠ p
  n2 : rl ≠ p
theorem Keep.dr {p nl rl : Addr} {ns : List Str} {xs : List V} {rs : List Rw} {H H' : Hp} (k : Keep p nl rl ns xs rs H) (d : Dr p H H') : Keep p nl rl ns xs rs H' :=
  ⟨d.2, d.1 _ _ k.names k.n1, d.1 _ _ k.rows k.n2, k.at_.dr k.box d, k.n1, k.n2⟩
section
variable {P : Program} {w : World} {K : PySem.W.Frag} {mg : Str → Option Value} {base : Heap}
/-! ### _law_rows -/
def spRows : Sp := fun vs H Q _ => ∃ (p : Addr) (many : Nat), vs = [.ref p, .int (many : Int)] ∧ 16 ≤ many ∧ many ≤ 240 ∧ BoxAt H p ∧
  ∀ (rs : List Rw) (xs : List V) (l : Addr) (H' : Hp), Good many rs → Dr p H H' → H l = none → H' l = some (.lst xs) → RowsAt H' xs rs → Q (.ref l) H'
theorem ok_rows {f fT fN : Addr} {fd fdT fdN : FuncData} {k : Nat} (F : Fun K "_law_rows" "_law_rows" sRows f fd) (mR : mg "range" = none) (mi : mg "int" = none) (mM : mg "min" = none)
    (GT : FnOk P w K mg base CX0 (k + 1) fT fdT ["_law_box_here", "_law_many_here"] spTake) (kT : PySem.W.keepIn K (.ref fT) = true) (bT : Binds K fdT ["_law_box_here", "_law_many_here"] []) (mTk : mg "_law_take" = some (.ref fT))
    (GN : FnOk P w K mg base CX0 (k + 2) fN fdN ["_law_box_here", "_law_many_here"] spNames) (kN : PySem.W.keepIn K (.ref fN) = true) (bN : Binds K fdN ["_law_box_here", "_law_many_here"] []) (mN : mg "_law_names" = some (.ref fN)) :
    FnOk P w K mg base CX0 (k + 3) f fd ["_law_box_here", "_law_many_here"] spRows := by
  refine F.ok scRows (fun vs H Q E h => ?_) (fun cdv A outer s H vs Q E hr h => ?_)
  · obtain ⟨p, many, rfl, _⟩ := h
    rfl
  · obtain ⟨p, many, rfl, hlo, hhi, hb, q⟩ := h
    have hr1 : Room (k + 1) (A.deeper (envOfC "_law_rows" (defScope sRows) s.heap.objs.size f cdv)) := hr.mono (by omega)
    refine ⟨_, pss_cons (ps_set (i := 2) scRows.nd rfl (.inl rfl) (pe_ix ix_list (pe_lst (pa_cons (pe_call GT hr1 (by rfl) mTk kT bT .nil pass0 (pa_cons (pv 0) (pa_cons pe_int pa_nil))) (pa_cons pe_int pa_nil)))
        (pe_callTy call_int1 (by rfl) mi (by decide +kernel) (pa_cons (pe_cmpR op_eq (pe_call GT hr1 (by rfl) mTk kT bT .nil pass0 (pa_cons (pv 0) (pa_cons pe_int pa_nil))) pe_int (nomark _)) pa_nil)) (fun _ _ => rfl)))
      (pss_cons (ps_set (i := 3) scRows.nd rfl (.inl rfl) (pe_call GN hr (by rfl) mN kN bN .nil pass0 (pa_cons (pv 0) (pa_cons (pv 2) pa_nil))))
      (pss_cons (ps_set (i := 4) scRows.nd rfl (.inl rfl) (pe_lst pa_nil))
      (pss_cons (ps_set (i := 5) scRows.nd rfl (.inl rfl) pe_int)
      (pss_cons (ps_for PassesOwn.never rfl (pi_range1 (by rfl) mR (pa_cons (pv 2) pa_nil)) (pg_name (i := 6) scRows.nd rfl (Or.inl rfl))
        (pss_cons (ps_set (i := 7) scRows.nd rfl (.inl rfl) (pe_op op_subN (pv 1) (pv 5)))
        (pss_one (ps_if (pt_cmpR op_gt (pv 7) pe_int (nomark _))
          (pss_cons (ps_set (i := 8) scRows.nd rfl (.inl rfl) (pe_ix ix_list (pe_lst (pa_cons pe_int (pa_cons pe_int
              (pa_cons (pe_call GT hr1 (by rfl) mTk kT bT .nil pass0 (pa_cons (pv 0) (pa_cons (pe_callB (call_min2 rfl) (by rfl) mM (by decide +kernel) (pa_cons (pv 7) (pa_cons pe_int pa_nil))) pa_nil)))
              (pa_cons (pe_call GT hr1 (by rfl) mTk kT bT .nil pass0 (pa_cons (pv 0) (pa_cons (pv 7) pa_nil))) pa_nil)))))
              (pe_call GT hr1 (by rfl) mTk kT bT .nil pass0 (pa_cons (pv 0) (pa_cons pe_int pa_nil))) (fun _ _ => rfl)))
          (pss_cons (ps_set (i := 9) scRows.nd rfl (.inl rfl) (pe_ix ix_list (pe_lst (pa_cons pe_int (pa_cons pe_int (pa_cons pe_int (pa_cons pe_int pa_nil))))) (pe_call GT hr1 (by rfl) mTk kT bT .nil pass0 (pa_cons (pv 0) (pa_cons pe_int pa_nil))) (fun _ _ => rfl)))
          (C8.pss_cut (ps_if (pt_cmpR op_gt (pv 2) pe_int (nomark _))
            (pss_cons (ps_set (i := 8) scRows.nd rfl (.inl rfl) (pe_ix ix_list (pe_lst (pa_cons pe_int (pa_cons pe_int (pa_cons pe_int
              (pa_cons (pe_call GT hr1 (by rfl) mTk kT bT .nil pass0 (pa_cons (pv 0) (pa_cons (pe_callB (call_min2 rfl) (by rfl) mM (by decide +kernel) (pa_cons (pv 7) (pa_cons pe_int pa_nil))) pa_nil))) pa_nil)))))
              (pe_call GT hr1 (by rfl) mTk kT bT .nil pass0 (pa_cons (pv 0) (pa_cons pe_int pa_nil))) (fun _ _ => rfl)))
            (pss_one (ps_set (i := 9) scRows.nd rfl (.inl rfl) (pe_ix ix_list (pe_lst (pa_cons pe_int (pa_cons pe_int (pa_cons (pe_op op_addN pe_int (pe_op op_fdivNN (pv 1) pe_int)) pa_nil)))) (pe_call GT hr1 (by rfl) mTk kT bT .nil pass0 (pa_cons (pv 0) (pa_cons pe_int pa_nil))) (fun _ _ => rfl))))) pss_nil)
          (pss_cons (ps_set (i := 10) scRows.nd rfl (.inl rfl) (pe_op op_addN pe_int (pe_call GT hr1 (by rfl) mTk kT bT .nil pass0 (pa_cons (pv 0) (pa_cons (pe_callB (call_min2 rfl) (by rfl) mM (by decide +kernel) (pa_cons (pe_op op_subN (pv 7) (pv 8)) (pa_cons (pv 9) pa_nil))) pa_nil)))))
          (pss_cons (ps_set (i := 11) scRows.nd rfl (.inl rfl) (pe_ix ix_list (pe_lst (pa_cons pe_int (pa_cons pe_int (pa_cons pe_int
              (pa_cons (pe_call GT hr1 (by rfl) mTk kT bT .nil pass0 (pa_cons (pv 0) (pa_cons pe_int pa_nil))) pa_nil)))))
              (pe_call GT hr1 (by rfl) mTk kT bT .nil pass0 (pa_cons (pv 0) (pa_cons pe_int pa_nil))) (fun _ _ => rfl)))
          (pss_cons (ps_expr (pe_bm PySem.F.plainAttrs_list PySem.F.slot_list_append PySem.F.type_list_append mt_append (pv 4) (pa_cons
              (pe_tup (pa_cons (pe_ix ix_list (pv 3) (pv 6) (fun _ _ => rfl)) (pa_cons (pe_op op_addN (pv 5) (pv 8)) (pa_cons (pv 10) (pa_cons (pv 11) pa_nil))))) pa_nil)))
          (pss_one (ps_set (i := 5) scRows.nd rfl (.inl rfl) (pe_op op_addN (pe_op op_addN (pv 5) (pv 8)) (pv 10)))))))))) pss_nil))))
      (pss_one (ps_ret (pv 4))))))), ?_⟩
    -- most
    refine ⟨_, rfl, p, 9, rfl, by decide, by decide, hb, fun v9 H1 h9 d1 => ⟨by show 2 ≤ sizeLine; decide, fun l1 hl1 => ?_⟩⟩
    have d2 : Dr p H1 (upd H1 l1 (.lst (nats [v9, 40]))) := .new d1.2 hl1
    have np1 := d1.2.ne hl1
    refine ⟨_, rfl, p, 8, rfl, by decide, by decide, d2.2, fun v8 H3 h8 d3 => ⟨rfl, .inr ⟨_, rfl, ?_⟩⟩⟩
    have hl3 : H3 l1 = some (.lst (nats [v9, 40])) := d3.1 _ _ upd_same np1.symm
    obtain ⟨most, hmost, emost⟩ : ∃ most : Nat, most ≤ 40 ∧ atI (nats [v9, 40]) (if decide (V.int (v8 : Int) = V.int 0) = true then 1 else 0) = some (.int (most : Int)) := by
      cases decide (V.int (v8 : Int) = V.int 0) with
      | true => exact ⟨40, by omega, atI_nat (j := 1) rfl⟩
      | false => exact ⟨v9, by omega, atI_nat (j := 0) rfl⟩
    refine ⟨l1, _, _, _, rfl, rfl, SqL.of hl3, emost, ?_⟩
    have d13 := d1.trans (d2.trans d3)
    -- names
    refine ⟨_, rfl, _, rfl, p, most, rfl, hmost, d13.2, fun ns nl H4 hns hok hnd d4 hnl0 hnl => ?_⟩
    have hnlH := d13.free hb hnl0
    refine ⟨Nat.zero_le _, fun rl hrl => ?_⟩
    have d14 := d13.trans d4
    have hrlH := d14.free hb hrl
    have nnr : nl ≠ rl := ne_of_none hnl hrl
    have d5 : Dr p H4 (upd H4 rl (.lst [])) := .new d4.2 hrl
    refine ⟨_, rfl, (most : Int), rfl, by omega, by omega, ?_⟩
    rw [Int.toNat_natCast]
    -- the loop
    refine for_range (lo := 0) (n := most) (fun i σ H' => ∃ (at_ : Nat) (rs : List Rw) (xs : List V) (v6 v7 v8 v9 v10 v11 : Option V), σ = [some (.ref p), some (.int (many : Int)), some (.int (most : Int)), some (.ref nl), some (.ref rl), some (.int (at_ : Int)), v6, v7, v8, v9, v10, v11] ∧
        Dr p H H' ∧ Keep p nl rl ns xs rs H' ∧ Some many ns i at_ rs ∧ at_ ≤ many)
      ⟨0, [], [], none, none, none, none, none, none, rfl, d14.trans d5, ⟨d5.2, by rw [upd_ne nnr]; exact hnl, upd_same, .nil, (hb.ne hnlH).symm, (hb.ne hrlH).symm⟩, .start _ _, by omega⟩ ?_ ?_
    · rintro i σ H' hi ⟨at_, rs, xs, v6, v7, v8, v9, v10, v11, rfl, d, kp, S, hat⟩
      refine ⟨_, rfl, _, rfl, many, at_, rfl, rfl, hat, ?_⟩
      generalize hleft : many - at_ = left
      refine ⟨_, rfl, _, _, rfl, rfl, _, rfl, ite2 (fun h => ?_) (fun _ => ?_)⟩
      · have hl0 : 0 < left := by
          have := of_decide_eq_true h
          omega
        -- gap
        have m5 := min_nat left 5
        refine ⟨_, rfl, _, rfl, _, _, rfl, p, min left 5, congrArg (fun z => [V.ref p, V.int z]) m5, by omega, by omega, kp.box, fun g1 Ha hg1 da => ?_⟩
        refine ⟨_, rfl, _, rfl, p, left, rfl, hl0, by omega, da.2, fun g2 Hb hg2 db => ⟨by show 4 ≤ sizeLine; decide, fun lb hlb => ?_⟩⟩
        have dc : Dr p Hb (upd Hb lb (.lst (nats [0, 0, g1, g2]))) := .new db.2 hlb
        have npb := db.2.ne hlb
        refine ⟨_, rfl, p, 4, rfl, by decide, by decide, dc.2, fun w4 Hd hw4 dd => ?_⟩
        obtain ⟨gap, hgm, egap⟩ := nats_at (gs := [0, 0, g1, g2]) (v := w4) hw4
        have hgap : gap < left := by
          simp only [List.mem_cons, List.not_mem_nil, or_false] at hgm
          rcases hgm with rfl | rfl | rfl | rfl <;> omega
        refine ⟨lb, _, _, _, rfl, rfl, SqL.of (dd.1 _ _ upd_same npb.symm), egap, ?_⟩
        have dgap := da.trans (db.trans (dc.trans dd))
        -- wide
        refine ⟨by show 4 ≤ sizeLine; decide, fun le hle => ?_⟩
        have de : Dr p Hd (upd Hd le (.lst (nats [1, 3, 12, 240]))) := .new dd.2 hle
        have npe := dd.2.ne hle
        refine ⟨_, rfl, p, 4, rfl, by decide, by decide, de.2, fun w5 Hf hw5 df => ?_⟩
        obtain ⟨wide, hwm, ewide⟩ := nats_at (gs := [1, 3, 12, 240]) (v := w5) hw5
        have hwide : 1 ≤ wide := by
          simp only [List.mem_cons, List.not_mem_nil, or_false] at hwm
          rcases hwm with rfl | rfl | rfl | rfl <;> decide
        refine ⟨le, _, _, _, rfl, rfl, SqL.of (df.1 _ _ upd_same npe.symm), ewide, ?_⟩
        have dwide := dgap.trans (de.trans df)
        -- both ways meet
        refine ⟨fun σ' H'' => ∃ gap wide : Nat, gap < left ∧ 1 ≤ wide ∧ σ' = [some (.ref p), some (.int (many : Int)), some (.int (most : Int)), some (.ref nl), some (.ref rl), some (.int (at_ : Int)), some (.int (0 + (i : Int))), some (.int (left : Int)), some (.int (gap : Int)), some (.int (wide : Int)), v10, v11] ∧ Dr p H' H'', ?_, ?_⟩
        · refine ⟨_, rfl, _, _, rfl, rfl, _, rfl, ite2 (fun _ => ?_) (fun _ => ?_)⟩
          · have m3 := min_nat left 3
            refine ⟨_, rfl, _, rfl, _, _, rfl, p, min left 3, congrArg (fun z => [V.ref p, V.int z]) m3, by omega, by omega, dwide.2, fun g3 Hg hg3 dg => ⟨by show 4 ≤ sizeLine; decide, fun lg hlg => ?_⟩⟩
            have dh : Dr p Hg (upd Hg lg (.lst (nats [0, 0, 0, g3]))) := .new dg.2 hlg
            have npg := dg.2.ne hlg
            refine ⟨_, rfl, p, 4, rfl, by decide, by decide, dh.2, fun w6 Hi hw6 di => ?_⟩
            obtain ⟨gap', hgm', egap'⟩ := nats_at (gs := [0, 0, 0, g3]) (v := w6) hw6
            have hgap' : gap' < left := by
              simp only [List.mem_cons, List.not_mem_nil, or_false] at hgm'
              rcases hgm' with rfl | rfl | rfl | rfl <;> omega
            refine ⟨lg, _, _, _, rfl, rfl, SqL.of (di.1 _ _ upd_same npg.symm), egap', ?_⟩
            refine ⟨_, rfl, many, 60, rfl, rfl, ⟨by decide, by decide⟩, 1, many / 60, rfl, rfl, by show 3 ≤ sizeLine; decide, fun lj hlj => ?_⟩
            have dj : Dr p Hi (upd Hi lj (.lst (nats [1, 1, 1 + many / 60]))) := .new di.2 hlj
            have npj := di.2.ne hlj
            refine ⟨_, rfl, p, 3, rfl, by decide, by decide, dj.2, fun w7 Hk hw7 dk => ?_⟩
            obtain ⟨wide', hwm', ewide'⟩ := nats_at (gs := [1, 1, 1 + many / 60]) (v := w7) hw7
            have hwide' : 1 ≤ wide' := by
              simp only [List.mem_cons, List.not_mem_nil, or_false] at hwm'
              rcases hwm' with rfl | rfl | rfl <;> omega
            exact ⟨lj, _, _, _, rfl, rfl, SqL.of (dk.1 _ _ upd_same npj.symm), ewide', gap', wide', hgap', hwide', rfl, dwide.trans (dg.trans (dh.trans (di.trans (dj.trans dk))))⟩
          · exact ⟨gap, wide, hgap, hwide, rfl, dwide⟩
        · rintro σ' Hm ⟨gap, wide, hgap, hwide, rfl, dm⟩
          have km := kp.dr dm
          -- size
          have mS := min_nat (left - gap) wide
          refine ⟨_, rfl, _, rfl, _, rfl, left, gap, rfl, rfl, by omega, _, rfl, _, _, rfl, p, min (left - gap) wide, congrArg (fun z => [V.ref p, V.int z]) mS, by omega, by omega, km.box, fun v Hn hv dn => ⟨1, v, rfl, rfl, ?_⟩⟩
          -- pins
          refine ⟨_, rfl, p, 1000, rfl, by decide, by decide, dn.2, fun g9 Ho hg9 d_o => ⟨by show 4 ≤ sizeLine; decide, fun lo hlo2 => ?_⟩⟩
          have dp : Dr p Ho (upd Ho lo (.lst (nats [0, 0, 1, g9]))) := .new d_o.2 hlo2
          have npo := d_o.2.ne hlo2
          refine ⟨_, rfl, p, 4, rfl, by decide, by decide, dp.2, fun w9 Hq hw9 dq => ?_⟩
          obtain ⟨pins, hpm, epins⟩ := nats_at (gs := [0, 0, 1, g9]) (v := w9) hw9
          have hpins : pins ≤ 1000 := by
            simp only [List.mem_cons, List.not_mem_nil, or_false] at hpm
            rcases hpm with rfl | rfl | rfl | rfl <;> omega
          refine ⟨lo, _, _, _, rfl, rfl, SqL.of (dq.1 _ _ upd_same npo.symm), epins, ?_⟩
          have dpins := dn.trans (d_o.trans (dp.trans dq))
          have kq := km.dr dpins
          -- the row
          have hin : i < ns.length := by omega
          have hni : (ns.map V.str)[i]? = some (.str ns[i]) := by
            rw [List.getElem?_map, List.getElem?_eq_getElem hin]
            rfl
          refine ⟨_, rfl, .inl ⟨rfl, _, SqL.of kq.rows⟩, _, rfl, _, rfl, nl, _, _, _, rfl, rfl, SqL.of kq.names, at_of (j := i) (by omega) hni, _, rfl, _, rfl, at_, gap, rfl, rfl, _, rfl, _, rfl, by show 4 ≤ sizeLine; decide, fun t ht => ?_⟩
          have st : Same Hq (upd Hq t (.tup (rowV ⟨ns[i], at_ + gap, 1 + v, pins⟩))) := same_new ht
          have nrt : rl ≠ t := ne_of_none kq.rows ht
          have hlen : xs.length = rs.length := Paired.length kp.at_
          have hfew := S.few
          refine ⟨rl, xs, _, rfl, rfl, st _ _ kq.rows, small1000 (by omega), ?_⟩
          have dt : Dr p Hq (upd Hq t (.tup (rowV ⟨ns[i], at_ + gap, 1 + v, pins⟩))) := .new kq.box ht
          have dall := d.trans (dm.trans (dpins.trans dt))
          have dput : Dr p H (upd (upd Hq t (.tup (rowV ⟨ns[i], at_ + gap, 1 + v, pins⟩))) rl (.lst (xs ++ [.ref t]))) := dall.put hrlH kp.n2
          have S' := S.more (size := 1 + v) (pins := pins) (gap := gap) (z := ns[i]) (List.getElem?_eq_getElem hin) (hok _ (List.getElem_mem _)) (by omega) (by omega) hpins
          refine ⟨_, rfl, _, rfl, at_, gap, rfl, rfl, _, rfl, at_ + gap, 1 + v, rfl, rfl, at_ + gap + (1 + v), rs ++ [⟨ns[i], at_ + gap, 1 + v, pins⟩], xs ++ [.ref t], _, _, _, _, _, _, rfl, dput, ⟨dput.2, ?_, upd_same, ?_, kp.n1, kp.n2⟩, S', by omega⟩
          · rw [upd_ne nnr]
            exact st _ _ kq.names
          · refine paired_snoc (⟨t, rfl, ?_⟩ : RowAt _ (.ref t) _) (Paired.mapP kq.at_ fun x r ⟨u, q1, q2⟩ => ⟨u, q1, ?_⟩)
            · rw [upd_ne nrt.symm]
              exact upd_same
            · rw [upd_ne (ne_of q2 kq.rows (by intro z; cases z))]
              exact st _ _ q2
      · exact ⟨at_, rs, xs, _, _, _, _, _, _, rfl, d, kp, S.skip, hat⟩
    · rintro σ H' ⟨at_, rs, xs, v6, v7, v8, v9, v10, v11, rfl, d, kp, S, hat⟩
      exact ⟨_, rfl, q rs xs rl H' (S.good hlo hhi hmost hnd) d hrlH kp.rows kp.at_⟩
end
end K15

namespace K15
open PySem PySem.Spec PyProof.Rows L2 TL

/-! ### what the law compares -/
theorem name_strOk {z : Str} (h : NameOk z) : PyData.strOk z = true := by
  unfold PyData.strOk
  rw [Array.all_eq_true_iff_forall_mem]
  intro c hc
  have := both_mem.mp (h.all c (Array.mem_toList_iff.mpr hc))
  exact decide_eq_true (by omega)
theorem text_strOk {many : Nat} {r : Rw} (ok : RowOk many r) : PyData.strOk (rowText r) = true := by
  unfold PyData.strOk
  rw [Array.all_eq_true_iff_forall_mem]
  intro c hc
  refine decide_eq_true (Nat.lt_of_not_le fun hge => ?_)
  have big : ∀ p ∈ r.nm :: restWords r, c ∉ tl p := by
    intro p hp hm
    rcases List.mem_cons.mp hp with rfl | hp
    · have := both_mem.mp (ok.nm.all c hm)
      omega
    · have k4 : ∀ n, c ∉ tl (num n) := fun n hn => by
        have := figs_mem.mp (num_figs n c hn)
        omega
      unfold restWords at hp
      rw [List.mem_append] at hp
      rcases hp with hp | hp
      · simp only [List.mem_cons, List.not_mem_nil, or_false] at hp
        rcases hp with rfl | rfl | rfl | rfl
        · rw [show tl wAt = [97, 116] by decide +kernel] at hm
          simp only [List.mem_cons, List.not_mem_nil, or_false] at hm
          omega
        · exact k4 _ hm
        · rw [show tl wSize = [115, 105, 122, 101] by decide +kernel] at hm
          simp only [List.mem_cons, List.not_mem_nil, or_false] at hm
          omega
        · exact k4 _ hm
      · split at hp
        · cases hp
        · simp only [List.mem_cons, List.not_mem_nil, or_false] at hp
          rcases hp with rfl | rfl
          · rw [show tl wPins = [112, 105, 110, 115] by decide +kernel] at hm
            simp only [List.mem_cons, List.not_mem_nil, or_false] at hm
            omega
          · exact k4 _ hm
  exact join_free (y := sp) (by rw [tl_sp]; simp only [List.mem_cons, List.not_mem_nil, or_false]; omega) big (Array.mem_toList_iff.mpr hc)
theorem dp_rows {K : PySem.W.Frag} {H : Hp} : ∀ {xs : List V} {rs : List Rw}, RowsAt H xs rs → DpAll K H xs (rs.map dRow)
  | _, _, .nil => .nil
  | _, _, .cons h t => by
    obtain ⟨u, rfl, hu⟩ := h
    exact .cons (.tup (SqT.of hu) (.cons (.str _) (.cons (.int _) (.cons (.int _) (.cons (.int _) .nil))))) (dp_rows t)
theorem lay_rows : ∀ {rs : List Rw}, (∀ r ∈ rs, NameOk r.nm) → PyData.canLayAll0 (rs.map dRow) = true ∧ PyData.depthAll (rs.map dRow) ≤ 1
  | [], _ => ⟨by simp [PyData.canLayAll0], by simp [PyData.depthAll]⟩
  | r :: rs, h => by
    obtain ⟨h1, h2⟩ := lay_rows fun x hx => h x (List.mem_cons_of_mem _ hx)
    have h3 := name_strOk (h r (List.mem_cons_self))
    constructor
    · rw [List.map_cons, PyData.canLayAll0, h1]
      unfold dRow
      simp [PyData.canLay0, PyData.canLayAll0, h3]
    · rw [List.map_cons, PyData.depthAll]
      have : (dRow r).depth = 1 := by
        unfold dRow
        simp [PyData.depth, PyData.depthAll]
      omega
theorem rows_ne_box {H : Hp} {p q : Addr} {ys : List V} {rs : List Rw} (hb : BoxAt H p) (h : H q = some (.lst ys)) (hy : RowsAt H ys rs) : q ≠ p := by
  rintro rfl
  obtain ⟨a, b, c, e, _⟩ := hb
  rw [h] at e
  injection e with e
  injection e with e
  subst e
  cases hy with
  | cons r _ =>
    obtain ⟨t, e, _⟩ := r
    cases e
theorem LayAt.dr {C p x : Addr} {H H' : Hp} {many : Nat} {rs : List Rw} (hb : BoxAt H p) (d : Dr p H H') (h : LayAt C H x many rs) : LayAt C H' x many rs := by
  obtain ⟨dx, q, ys, h1, h2, h3⟩ := h
  have hb' := hb
  obtain ⟨a, b, c, e, _⟩ := hb'
  exact ⟨dx, q, ys, d.1 _ _ h1 (ne_of h1 e (by intro z; cases z)), d.1 _ _ h2 (rows_ne_box hb h2 h3), h3.dr hb d⟩
/-- behind draws from a new box all that stood stands -/
theorem same_of_dr {p : Addr} {H H1 H2 : Hp} (s : Same H H1) (hp : H p = none) (d : Dr p H1 H2) : Same H H2 := fun b o e => d.1 b o (s _ _ e) (ne_of_none e hp)
theorem text_perm {rs : List Rw} {ys : List V} (h : ys.Perm ((rs.map rowText).map V.str)) : ∃ ps : List Rw, ps.Perm rs ∧ ys = (ps.map rowText).map V.str := by
  have mk : ∀ rs : List Rw, Paired (fun (x : V) (r : Rw) => x = V.str (rowText r)) ((rs.map rowText).map V.str) rs := fun rs => by
    induction rs with
    | nil => exact .nil
    | cons r rs ih => exact .cons rfl ih
  have un : ∀ {ys : List V} {ps : List Rw}, Paired (fun (x : V) (r : Rw) => x = V.str (rowText r)) ys ps → ys = (ps.map rowText).map V.str := by
    intro ys ps h
    induction h with
    | nil => rfl
    | cons e _ ih =>
      rw [e, ih]
      rfl
  obtain ⟨ps, p, k⟩ := paired_perm h (mk rs)
  exact ⟨ps, p, un k⟩
section
variable {P : Program} {w : World} {K : PySem.W.Frag} {mg : Str → Option Value} {base : Heap}
def spLaw (K : PySem.W.Frag) : Sp := fun vs H Q _ => ∃ (a : Addr) (ns : List Int), vs = [.ref a] ∧ SqL K H a (ns.map V.int) ∧ ns.length ≤ 63 ∧ ∀ H', Q (.bl true) H'
/-- what the law calls -/
structure LawCalls (P : Program) (w : World) (K : PySem.W.Frag) (mg : Str → Option Value) (base : Heap) (C : Addr) where
  fC : Addr
  fB : Addr
  fM : Addr
  fR : Addr
  fX : Addr
  fT : Addr
  fW : Addr
  fL : Addr
  fD : Addr
  fI : Addr
  dC : FuncData
  dB : FuncData
  dM : FuncData
  dR : FuncData
  dX : FuncData
  dT : FuncData
  dW : FuncData
  dL : FuncData
  dD : FuncData
  dI : FuncData
structure CallsOk {P : Program} {w : World} {K : PySem.W.Frag} {mg : Str → Option Value} {base : Heap} {C : Addr} (c : LawCalls P w K mg base C) (k : Nat) : Prop where
  gC : FnOk P w K mg base CX0 (k + 1) c.fC c.dC ["_law_script", "_law_k"] (spCell K)
  gB : FnOk P w K mg base CX0 (k + 1) c.fB c.dB ["_law_cell"] spBox
  gM : FnOk P w K mg base CX0 (k + 2) c.fM c.dM ["_law_box_here"] spMany
  gR : FnOk P w K mg base CX0 (k + 3) c.fR c.dR ["_law_box_here", "_law_many_here"] spRows
  gX : FnOk P w K mg base CX0 (k + 2) c.fX c.dX ["_law_box_here", "_law_some"] spMixed
  gT : FnOk P w K mg base CX0 (k + 1) c.fT c.dT ["_law_row"] spRText
  gW : FnOk P w K mg base CX0 (k + 2) c.fW c.dW ["layout"] (spWrite C)
  gL : FnOk P w K mg base CX0 (k + 1) c.fL c.dL ["self"] (spBlocks C)
  gD : FnOk P w K mg base CX0 (k + 6) c.fD c.dD ["text"] (spRead C)
  gI : FnOk P w K mg base CX0 (k + 4) c.fI c.dI ["self", "many", "rows"] (spInit C)
  kC : PySem.W.keepIn K (.ref c.fC) = true
  kB : PySem.W.keepIn K (.ref c.fB) = true
  kM : PySem.W.keepIn K (.ref c.fM) = true
  kR : PySem.W.keepIn K (.ref c.fR) = true
  kX : PySem.W.keepIn K (.ref c.fX) = true
  kT : PySem.W.keepIn K (.ref c.fT) = true
  kW : PySem.W.keepIn K (.ref c.fW) = true
  kD : PySem.W.keepIn K (.ref c.fD) = true
  bC : Binds K c.dC ["_law_script", "_law_k"] []
  bB : Binds K c.dB ["_law_cell"] []
  bM : Binds K c.dM ["_law_box_here"] []
  bR : Binds K c.dR ["_law_box_here", "_law_many_here"] []
  bX : Binds K c.dX ["_law_box_here", "_law_some"] []
  bT : Binds K c.dT ["_law_row"] []
  bW : Binds K c.dW ["layout"] []
  bL : Binds K c.dL ["self"] []
  bD : Binds K c.dD ["text"] []
  bI : Binds K c.dI ["self", "many", "rows"] []
  mC : mg "_law_cell_at" = some (.ref c.fC)
  mB : mg "_law_box" = some (.ref c.fB)
  mM : mg "_law_many" = some (.ref c.fM)
  mR : mg "_law_rows" = some (.ref c.fR)
  mX : mg "_law_mixed" = some (.ref c.fX)
  mT : mg "_law_row_text" = some (.ref c.fT)
  mW : mg "write_layout" = some (.ref c.fW)
  mD : mg "read_layout" = some (.ref c.fD)
  mY : mg "Layout" = some (.ref C)
  cl : Cls K C
  nM : NoAttr K C "many"
  made : Mk K C c.fI
  mt : Meth K C "blocks" c.fL
  len : mg "len" = none
  rng : mg "range" = none
  mx : mg "max" = none
  mn : mg "min" = none
  str : mg "str" = none
theorem ok_law {f C : Addr} {fd : FuncData} {k : Nat} {c : LawCalls P w K mg base C} (F : Fun K "law" "law" sLaw f fd) (G : CallsOk c k) : FnOk P w K mg base CX0 (k + 7) f fd ["_law_script"] (spLaw K) := by
  refine F.ok scLaw (fun vs H Q E h => ?_) (fun cdv A outer s H vs Q E hr h => ?_)
  · obtain ⟨a, ns, rfl, _⟩ := h
    rfl
  · obtain ⟨a, ns, rfl, hS, hlen, q⟩ := h
    have hr1 : Room (k + 1) (A.deeper (envOfC "law" (defScope sLaw) s.heap.objs.size f cdv)) := hr.mono (by omega)
    have hr2 : Room (k + 2) (A.deeper (envOfC "law" (defScope sLaw) s.heap.objs.size f cdv)) := hr.mono (by omega)
    have hr3 : Room (k + 3) (A.deeper (envOfC "law" (defScope sLaw) s.heap.objs.size f cdv)) := hr.mono (by omega)
    have hr5 : Room (k + 4 + 1) (A.deeper (envOfC "law" (defScope sLaw) s.heap.objs.size f cdv)) := hr.mono (by omega)
    refine ⟨_, pss_cons (ps_for PassesOwn.never rfl (pi_range1 (by rfl) G.rng (pa_cons (pe_callB (call_max2 rfl) (by rfl) G.mx (by decide +kernel) (pa_cons pe_int (pa_cons (pe_callB (call_min2 rfl) (by rfl) G.mn (by decide +kernel) (pa_cons (pe_callB call_len_seq (by rfl) G.len PySem.boot_len (pa_cons (pv 0) pa_nil)) (pa_cons pe_int pa_nil))) pa_nil))) pa_nil)) (pg_name (i := 1) scLaw.nd rfl (Or.inl rfl))
        (pss_cons (ps_set (i := 2) scLaw.nd rfl (.inl rfl) (pe_call G.gB hr1 (by rfl) G.mB G.kB G.bB .nil pass0 (pa_cons (pe_call G.gC hr1 (by rfl) G.mC G.kC G.bC .nil pass0 (pa_cons (pv 0) (pa_cons (pv 1) pa_nil))) pa_nil)))
        (pss_cons (ps_set (i := 3) scLaw.nd rfl (.inl rfl) (pe_call G.gM hr2 (by rfl) G.mM G.kM G.bM .nil pass0 (pa_cons (pv 2) pa_nil)))
        (pss_cons (ps_set (i := 4) scLaw.nd rfl (.inl rfl) (pe_call G.gR hr3 (by rfl) G.mR G.kR G.bR .nil pass0 (pa_cons (pv 2) (pa_cons (pv 3) pa_nil))))
        (pss_cons (ps_set (i := 5) scLaw.nd rfl (.inl rfl) (pe_make G.made G.gI hr5 (by rfl) G.mY G.bI .nil pass0 (pa_cons (pv 3) (pa_cons (pe_call G.gX hr2 (by rfl) G.mX G.kX G.bX .nil pass0 (pa_cons (pv 2) (pa_cons (pv 4) pa_nil))) pa_nil))))
        (pss_cons (ps_setLc (i := 6) (own := [("_law_row", 10)]) (g := gName 10) (tt := tYes) rfl scLaw.nd rfl rfl (sw_true rfl rfl rfl (by decide +kernel)) (pi_list (pv 4)) (blkOk_by (own := [("_law_row", 10)]) (N := ["_law_script", "_law_k", "_law_box_here", "_law_many_here", "_law_rows_here", "_law_layout", "_law_texts", "_law_due", "_law_some", "_law_found", "_law_row"]) (sc := defScope sLaw) (by decide +kernel))
          (fun _ _ _ _ _ => pg_name (i := 10) scLaw.nd rfl (Or.inl rfl)) (fun _ _ _ _ _ => pts_nil)
          (fun _ _ _ _ _ => pe_call G.gT hr1 (by rfl) G.mT G.kT G.bT .nil pass0 (pa_cons (pv 10) pa_nil)))
        (pss_cons (ps_set (i := 7) scLaw.nd rfl (.inl rfl) (pe_join pe_str (pe_op op_cat (pe_lst (pa_cons (pe_op op_add_str pe_str (pe_callTy call_str_int (by rfl) G.str (by decide +kernel) (pa_cons (pv 3) pa_nil))) pa_nil)) (pv 6))))
        (pss_cons (ps_if (PW.pt (pw_or (pt_cmpR op_ne (pe_call G.gW hr2 (by rfl) G.mW G.kW G.bW .nil pass0 (pa_cons (pv 5) pa_nil)) (pv 7) (nomark _))
            (pw_or1 (pt_cmpR (op_neD hr.units) (pe_meth0 (pv 5) G.cl G.mt G.gL hr1 G.bL .nil pass0) (pv 4) (nomark _))))) (pss_one (ps_ret pe_bl)) pss_nil)
        (pss_cons (ps_for PassesOwn.never rfl (pi_list (pe_lst (pa_cons (pv 6) (pa_cons (pe_call G.gX hr2 (by rfl) G.mX G.kX G.bX .nil pass0 (pa_cons (pv 2) (pa_cons (pv 6) pa_nil))) pa_nil)))) (pg_name (i := 8) scLaw.nd rfl (Or.inl rfl))
          (pss_cons (ps_set (i := 9) scLaw.nd rfl (.inl rfl) (pe_call G.gD hr (by rfl) G.mD G.kD G.bD .nil pass0 (pa_cons (pe_join pe_str (pe_op op_cat (pe_lst (pa_cons (pe_op op_add_str pe_str (pe_callTy call_str_int (by rfl) G.str (by decide +kernel) (pa_cons (pv 3) pa_nil))) pa_nil)) (pv 8))) pa_nil)))
          (pss_one (ps_if (PW.pt (pw_or (pt_cmpR op_ne (pe_fld (pv 9) rfl) (pv 3) (nomark _))
            (pw_or (pt_cmpR (op_neD hr.units) (pe_meth0 (pv 9) G.cl G.mt G.gL hr1 G.bL .nil pass0) (pv 4) (nomark _))
            (pw_or1 (pt_cmpR op_ne (pe_call G.gW hr2 (by rfl) G.mW G.kW G.bW .nil pass0 (pa_cons (pv 9) pa_nil)) (pv 7) (nomark _)))))) (pss_one (ps_ret pe_bl)) pss_nil))))
        (pss_one (ps_if (pt_cmpR op_ne (pe_call G.gW hr2 (by rfl) G.mW G.kW G.bW .nil pass0 (pa_cons (pv 5) pa_nil)) (pv 7) (nomark _)) (pss_one (ps_ret pe_bl)) pss_nil)))))))))))
      (pss_one (ps_ret pe_bl)), ?_⟩
    -- the range
    refine ⟨_, rfl, a, _, rfl, .inl hS, _, _, rfl, _, _, rfl, _, rfl, ?_, ?_, ?_⟩
    · rw [List.length_map]
      split <;> split <;> omega
    · rw [List.length_map]
      split <;> split <;> omega
    refine for_range (lo := 0) (fun i σ H' => ∃ v1 v2 v3 v4 v5 v6 v7 v8 v9 v10 : Option V, σ = [some (.ref a), v1, v2, v3, v4, v5, v6, v7, v8, v9, v10] ∧ Same H H') ⟨none, none, none, none, none, none, none, none, none, none, rfl, Same.refl H⟩ ?_ ?_
    · rintro i σ H0 hi ⟨v1, v2, v3, v4, v5, v6, v7, v8, v9, v10, rfl, s0⟩
      have e0 : (0 : Int) + (i : Int) = (i : Int) := by omega
      -- the box, the cells, the rows
      refine ⟨_, rfl, _, rfl, a, ns, i, congrArg (fun z => [V.ref a, V.int z]) e0, s0.seq hS, fun cell => ?_⟩
      refine ⟨cell, rfl, fun p H1 hp s1 b1 => ?_⟩
      refine ⟨_, rfl, p, rfl, b1, fun many H2 hlo hhi d2 => ?_⟩
      refine ⟨_, rfl, _, rfl, p, many, rfl, hlo, hhi, d2.2, fun rs xs rl H3 g d3 hrl0 hrl hx => ?_⟩
      have nrl : rl ≠ p := (d2.2.ne hrl0).symm
      have hxl : xs.length = rs.length := Paired.length hx
      have hfew := g.few
      have hnames : ∀ r ∈ rs, NameOk r.nm := fun r hr => (g.row r hr).nm
      obtain ⟨lay1, lay2⟩ := lay_rows hnames
      -- the layout
      refine ⟨_, rfl, _, rfl, _, rfl, p, rl, xs, rfl, d3.2, hrl, by omega, fun x hxm => ?_, fun ys fl H4 pm d4 hfl0 hfl => ?_⟩
      · obtain ⟨j, hj, e⟩ := List.getElem_of_mem hxm
        obtain ⟨r, hrj, hr2⟩ := paired_get hx ((List.getElem?_eq_getElem hj).trans (congrArg some e))
        exact ⟨_, .row hr2 (name_strOk (hnames r (List.mem_of_getElem? hrj)))⟩
      intro x dx nx ndx nex
      have sM : Same H4 (upd (upd H4 dx (.own x)) x (.ins C dx [])) := fun z o e => by
        rw [upd_ne (ne_of_none e nx), upd_ne (ne_of_none e ndx)]
        exact e
      have hx4 : RowsAt H4 xs rs := hx.dr d3.2 d4
      have hrl4 : H4 rl = some (.lst xs) := d4.1 _ _ hrl nrl
      obtain ⟨ps, pmr, hys⟩ := paired_perm pm hx4
      refine ⟨x, fl, dx, many, ys, ps, rs, rfl, upd_same, sM _ _ hfl, RowsAt.same hys sM, pmr, g, fun H5 L5 kp5 => ⟨rfl, ?_⟩⟩
      have s5 : Same H4 H5 := fun z o e => kp5 z o (sM _ _ e) (ne_of_none e nx)
      have d5 : Dr p H4 H5 := .same d4.2 s5
      have hrl5 := s5 _ _ hrl4
      have hx5 := hx4.same s5
      -- the texts
      refine ⟨_, rfl, rl, rfl, ⟨_, SqL.of hrl5⟩, fun D hD => lc_list (K := K) (a := rl) (xs := xs) (fun j H' => Same H5 H' ∧ H' D = some (.lst (((rs.take j).map rowText).map V.str))) ⟨same_new hD, upd_same⟩ (fun j H' _ k => SqL.of (k.1 _ _ hrl5)) ?_ ?_⟩
      · rintro j y H' hj ⟨sm, hd⟩
        obtain ⟨r, hrj, t, rfl, ht⟩ := paired_get hx5 hj
        have hjl : j < xs.length := (List.getElem?_eq_some_iff.mp hj).1
        refine ⟨rfl, ?_⟩
        refine ⟨_, rfl, t, r, many, rfl, sm _ _ ht, g.row r (List.mem_of_getElem? hrj), hhi, fun H'' s'' => ⟨_, s'' _ _ hd, ?_, fun b o e => ?_, ?_⟩⟩
        · rw [List.length_map, List.length_map, List.length_take]
          exact small1000 (by omega)
        · rw [upd_ne (ne_of_none e hD)]
          exact s'' _ _ (sm _ _ e)
        · refine upd_same.trans ?_
          rw [List.take_add_one, hrj, List.map_append, List.map_append]
          rfl
      rintro H6 ⟨s6, hD6⟩
      rw [List.take_of_length_le (by omega)] at hD6
      have d6 : Dr p H5 H6 := .same d5.2 s6
      -- due
      have n1 : (num many).length ≤ 4 := num_len4 (by omega)
      have a1 : (("cells " : Str)).length = 6 := by decide +kernel
      refine ⟨⟨_, rfl⟩, _, rfl, (many : Int), rfl, log_small (by omega), (("cells " : Str)), num many, rfl, rfl, szl (by rw [a1]; show 6 + (num many).length ≤ 1000; omega), (by show 1 ≤ sizeLine; decide), fun c1 hc1 => ?_⟩
      have s7 : Same H6 (upd H6 c1 (.lst [.str (("cells " : Str) ++ num many)])) := same_new hc1
      refine ⟨_, rfl, c1, D, _, _, rfl, rfl, upd_same, s7 _ _ hD6, (by rw [List.length_map, List.length_map]; exact szl (show 1 + rs.length ≤ 1000 by omega)), fun c2 hc2 => ?_⟩
      have s8 : Same H6 (upd (upd H6 c1 (.lst [.str (("cells " : Str) ++ num many)])) c2 (.lst ([.str (("cells " : Str) ++ num many)] ++ (rs.map rowText).map V.str))) := s7.trans (same_new hc2)
      refine ⟨nl, c2, headText many :: rs.map rowText, rfl, rfl, .inl (SqL.of ?_), whole_sum hhi hfew g.row, ?_⟩
      · rw [upd_same, law_head]
        rfl
      generalize hH8 : upd (upd H6 c1 (.lst [.str (("cells " : Str) ++ num many)])) c2 (.lst ([.str (("cells " : Str) ++ num many)] ++ (rs.map rowText).map V.str)) = H8 at s8
      have L8 : LayAt C H8 x many rs := (L5.same s6).same s8
      have hrl8 : H8 rl = some (.lst xs) := s8 _ _ (s6 _ _ hrl5)
      have hx8 : RowsAt H8 xs rs := (hx5.same s6).same s8
      have hD8 := s8 _ _ hD6
      have d8 : Dr p H6 H8 := .same d6.2 s8
      -- written once
      refine ⟨_, rfl, x, many, rs, rfl, L8, g, fun H9 s9 => ⟨_, rfl, rfl, false, nT rfl, iteF ?_⟩⟩
      have L9 := L8.same s9
      have hrl9 := s9 _ _ hrl8
      have hx9 := hx8.same s9
      have hD9 := s9 _ _ hD8
      have d9 : Dr p H8 H9 := .same d8.2 s9
      obtain ⟨dxA, qA, yA, hA1, hA2, hA3⟩ := id L9
      refine ⟨_, rfl, x, dxA, _, rfl, hA1, lf_no _ _ (by decide +kernel) (by decide +kernel), x, dxA, qA, many, yA, rfl, hA1, hA2, fun b1 hb1 => ?_⟩
      have s10 : Same H9 (upd H9 b1 (.lst yA)) := same_new hb1
      refine ⟨_, rfl, .list (rs.map dRow), .list (rs.map dRow), .lst (SqL.of upd_same) (dp_rows (hA3.same s10)), .lst (SqL.of (s10 _ _ hrl9)) (dp_rows (hx9.same s10)), shaped_list lay1 lay2, shaped_list lay1 lay2, ?_⟩
      rw [show PyData.eqv (.list (rs.map dRow)) (.list (rs.map dRow)) = true from by rw [PyData.eqv]; exact SeqAt.eqvAll_refl _ lay1]
      refine ⟨false, rfl, iteF ?_⟩
      have L10 := L9.same s10
      have hrl10 := s10 _ _ hrl9
      have hx10 := hx9.same s10
      have hD10 := s10 _ _ hD9
      have d10 : Dr p H9 (upd H9 b1 (.lst yA)) := .same d9.2 s10
      generalize upd H9 b1 (.lst yA) = H10 at s10 L10 hrl10 hx10 hD10 d10
      have hDp : D ≠ p := (d5.2.ne hD).symm
      -- the texts mixed
      refine ⟨_, rfl, _, rfl, _, rfl, p, D, _, rfl, d10.2, hD10, (by rw [List.length_map, List.length_map]; omega), fun z hz => ?_, fun zs ml H11 pmz d11 hml0 hml => ?_⟩
      · obtain ⟨u, hu, rfl⟩ := List.mem_map.mp hz
        obtain ⟨r, hr0, rfl⟩ := List.mem_map.mp hu
        exact ⟨_, .str _ (text_strOk (g.row r hr0))⟩
      obtain ⟨pz, pmzr, rfl⟩ := text_perm pmz
      have L11 := L10.dr d10.2 d11
      have hrl11 := d11.1 _ _ hrl10 nrl
      have hx11 := hx10.dr d10.2 d11
      have hD11 := d11.1 _ _ hD10 hDp
      refine ⟨by show 2 ≤ sizeLine; decide, fun dl hdl => ?_⟩
      have s12 : Same H11 (upd H11 dl (.lst [.ref D, .ref ml])) := same_new hdl
      have hdl12 : (upd H11 dl (.lst [.ref D, .ref ml])) dl = some (.lst [.ref D, .ref ml]) := upd_same
      have d12 : Dr p H11 (upd H11 dl (.lst [.ref D, .ref ml])) := .new d11.2 hdl
      generalize upd H11 dl (.lst [.ref D, .ref ml]) = H12 at s12 hdl12 d12
      have dall : Dr p H1 H12 := d2.trans (d3.trans (d4.trans (d5.trans (d6.trans (d8.trans (d9.trans (d10.trans (d11.trans d12))))))))
      have sall : Same H H12 := s0.trans (same_of_dr s1 hp dall)
      have L12 := L11.same s12
      have hrl12 := s12 _ _ hrl11
      have hx12 := hx11.same s12
      have texts : ∀ (j : Nat) (y : V), ([.ref D, .ref ml] : List V)[j]? = some y → ∃ (l : Addr) (pt : List Rw), y = .ref l ∧ H12 l = some (.lst ((pt.map rowText).map V.str)) ∧ pt.Perm rs := by
        intro j y hy
        match j, hy with
        | 0, hy =>
          have e : V.ref D = y := Option.some.inj hy
          exact ⟨D, rs, e.symm, s12 _ _ hD11, .refl _⟩
        | 1, hy =>
          have e : V.ref ml = y := Option.some.inj hy
          exact ⟨ml, pz, e.symm, s12 _ _ hml, pmzr⟩
        | j + 2, hy => simp at hy
      -- both texts
      refine ⟨dl, rfl, ⟨_, SqL.of hdl12⟩, for_list (K := K) (a := dl) (xs := [.ref D, .ref ml]) (fun j σ H' => ∃ u8 u9 : Option V, σ = [some (.ref a), some (.int (0 + (i : Int))), some (.ref p), some (.int (many : Int)), some (.ref rl), some (.ref x), some (.ref D), some (.str (whole many rs)), u8, u9, v10] ∧ Same H12 H')
        ⟨_, _, rfl, Same.refl _⟩ (fun j σ H' _ k => by
          obtain ⟨_, _, _, sm⟩ := k
          exact SqL.of (sm _ _ hdl12)) ?_ ?_⟩
      · rintro j y σ H13 hj ⟨u8, u9, rfl, sm⟩
        obtain ⟨tl_, pt, rfl, htl, pmt⟩ := texts j y hj
        have hfewt : pt.length ≤ 40 := g.perm_few pmt
        have hrowt := g.perm_row pmt
        refine ⟨⟨_, rfl⟩, _, rfl, (many : Int), rfl, log_small (by omega), (("cells " : Str)), num many, rfl, rfl, szl (by rw [a1]; show 6 + (num many).length ≤ 1000; omega), (by show 1 ≤ sizeLine; decide), fun e1 he1 => ?_⟩
        have t1 : Same H13 (upd H13 e1 (.lst [.str (("cells " : Str) ++ num many)])) := same_new he1
        refine ⟨_, rfl, e1, tl_, _, _, rfl, rfl, upd_same, t1 _ _ (sm _ _ htl), (by rw [List.length_map, List.length_map]; exact szl (show 1 + pt.length ≤ 1000 by omega)), fun e2 he2 => ?_⟩
        have t2 : Same H13 (upd (upd H13 e1 (.lst [.str (("cells " : Str) ++ num many)])) e2 (.lst ([.str (("cells " : Str) ++ num many)] ++ (pt.map rowText).map V.str))) := t1.trans (same_new he2)
        refine ⟨nl, e2, headText many :: pt.map rowText, rfl, rfl, .inl (SqL.of ?_), whole_sum hhi hfewt hrowt, ?_⟩
        · rw [upd_same, law_head]
          rfl
        generalize upd (upd H13 e1 (.lst [.str (("cells " : Str) ++ num many)])) e2 (.lst ([.str (("cells " : Str) ++ num many)] ++ (pt.map rowText).map V.str)) = H14 at t2
        refine ⟨many, pt, rs, rfl, pmt, g, fun H15 y t3 hy0 Ly => ?_⟩
        have t15 : Same H12 H15 := sm.trans (t2.trans t3)
        obtain ⟨dxB, qB, yB, hB1, hB2, hB3⟩ := id Ly
        refine ⟨_, rfl, y, C, dxB, _, _, rfl, hB1, G.cl, G.nM, lf_many _ _, _, rfl, rfl, false, nT rfl, iteF ?_⟩
        refine ⟨_, rfl, y, dxB, _, rfl, hB1, lf_no _ _ (by decide +kernel) (by decide +kernel), y, dxB, qB, many, yB, rfl, hB1, hB2, fun b2 hb2 => ?_⟩
        have t4 : Same H15 (upd H15 b2 (.lst yB)) := same_new hb2
        refine ⟨_, rfl, .list (rs.map dRow), .list (rs.map dRow), .lst (SqL.of upd_same) (dp_rows (hB3.same t4)), .lst (SqL.of (t4 _ _ (t15 _ _ hrl12))) (dp_rows ((hx12.same t15).same t4)), shaped_list lay1 lay2, shaped_list lay1 lay2, ?_⟩
        rw [show PyData.eqv (.list (rs.map dRow)) (.list (rs.map dRow)) = true from by rw [PyData.eqv]; exact SeqAt.eqvAll_refl _ lay1]
        refine ⟨false, rfl, iteF ?_⟩
        refine ⟨_, rfl, y, many, rs, rfl, Ly.same t4, g, fun H16 t5 => ⟨_, rfl, rfl, false, nT rfl, iteF ?_⟩⟩
        exact ⟨_, _, rfl, t15.trans (t4.trans t5)⟩
      · rintro σ H17 ⟨u8, u9, rfl, sm⟩
        refine ⟨_, rfl, x, many, rs, rfl, L12.same sm, g, fun H18 t6 => ⟨_, rfl, rfl, false, nT rfl, iteF ?_⟩⟩
        exact ⟨_, _, _, _, _, _, _, _, _, _, rfl, sall.trans (sm.trans t6)⟩
    · rintro σ H' ⟨v1, v2, v3, v4, v5, v6, v7, v8, v9, v10, rfl, s0⟩
      exact q H'
end
end K15

/-! What the top has written, and the law's own head. -/
namespace K15
open PySem PySem.Spec PyProof.Rows L2 TL

/-- a def of the module stands at f -/
structure DefAt (K : PySem.W.Frag) (x : Str) (st : Stmt) (f : Addr) : Prop where
  ns : PySem.W.nsIn K mainGlobals x = some (some (.ref f))
  fn : ∃ fd, Fun K x x st f fd
theorem defAt_mk {K : PySem.W.Frag} {x : Str} {st : Stmt} {f : Addr} {oc : Value} {od an : Option Addr} {osl : Array (Option Value)} {kV doc pm cdv ct : Value}
    (a : PySem.W.nsIn K mainGlobals x = some (some (.ref f))) (l : K.lookup f = some ⟨oc, od, .func (PySem.W.fnOf x x (defArgs st) (defBody st) (defScope st) .none kV doc pm an cdv ct), osl⟩)
    (c : PySem.W.codeIn K cdv x = true) (k : PySem.W.keepIn K (.ref f) = true) : DefAt K x st f := ⟨a, _, fun_mk l c k⟩
/-- a method of the class at C stands at f -/
structure MethAt (K : PySem.W.Frag) (C : Addr) (x qual : Str) (st : Stmt) (f : Addr) : Prop where
  find : PySem.W.findIn K (.ref C) x = some (some (.ref f))
  isf : PySem.W.isFn K (.ref f) = true
  fn : ∃ fd, Fun K x qual st f fd
theorem methAt_mk {K : PySem.W.Frag} {C : Addr} {x qual : Str} {st : Stmt} {f : Addr} {oc : Value} {od an : Option Addr} {osl : Array (Option Value)} {kV doc pm cdv ct : Value}
    (a : PySem.W.findIn K (.ref C) x = some (some (.ref f))) (i : PySem.W.isFn K (.ref f) = true) (l : K.lookup f = some ⟨oc, od, .func (PySem.W.fnOf x qual (defArgs st) (defBody st) (defScope st) .none kV doc pm an cdv ct), osl⟩)
    (c : PySem.W.codeIn K cdv qual = true) (k : PySem.W.keepIn K (.ref f) = true) : MethAt K C x qual st f := ⟨a, i, _, fun_mk l c k⟩

theorem all_mk {l : PySem.W.OpenLaw} {w : World} {K : PySem.W.Frag} {h : Heap} {mg : Str → Option Value} {fa C fWhole fWithin fName fNeed fRow fShare fStart fBRow fWrite fPlain fNumd fRBlock fRead fCell fBox fTake fNames fMany fRows fMixed fRText fLaw fInit fCheck fBlocks : Addr} {t0 t1 t2 t3 t4 t5 t6 : Tok} (X : K.In h) (G : h.Ns mainGlobals mg) (hfa : mg "law" = some (.ref fa))
    (DWhole : DefAt K "is_whole" sWhole fWhole)
    (DWithin : DefAt K "is_within" sWithin fWithin)
    (DName : DefAt K "is_name" sName fName)
    (DNeed : DefAt K "need_many" sNeed fNeed)
    (DRow : DefAt K "is_row" sRow fRow)
    (DShare : DefAt K "share_cells" sShare fShare)
    (DStart : DefAt K "start_of" sStart fStart)
    (DBRow : DefAt K "block_row" sBRow fBRow)
    (DWrite : DefAt K "write_layout" sWrite fWrite)
    (DPlain : DefAt K "plain_number" sPlain fPlain)
    (DNumd : DefAt K "numbered" sNumd fNumd)
    (DRBlock : DefAt K "read_block" sRBlock fRBlock)
    (DRead : DefAt K "read_layout" sRead fRead)
    (DCell : DefAt K "_law_cell_at" sCell fCell)
    (DBox : DefAt K "_law_box" sBox fBox)
    (DTake : DefAt K "_law_take" sTake fTake)
    (DNames : DefAt K "_law_names" sNames fNames)
    (DMany : DefAt K "_law_many" sMany fMany)
    (DRows : DefAt K "_law_rows" sRows fRows)
    (DMixed : DefAt K "_law_mixed" sMixed fMixed)
    (DRText : DefAt K "_law_row_text" sRText fRText)
    (DLaw : DefAt K "law" sLaw fLaw)
    (DInit : MethAt K C "__init__" "Layout.__init__" sInit fInit)
    (DCheck : MethAt K C "check_row" "Layout.check_row" sCheck fCheck)
    (DBlocks : MethAt K C "blocks" "Layout.blocks" sBlocks fBlocks)
    (aC : PySem.W.nsIn K mainGlobals "Layout" = some (some (.ref C))) (pg : PySem.W.plainGet K C Str.empty = true) (hd : PySem.W.hasDictIn K C = true) (po : PySem.W.plainOver K C = true) (sa : PySem.W.findIn K (.ref C) "__setattr__" = some (some (.builtin "object.__setattr__"))) (mk : PySem.W.makesIn K C = true) (kc : PySem.W.keepIn K (.ref C) = true)
    (nM : PySem.W.findIn K (.ref C) "many" = some none) (nR : PySem.W.findIn K (.ref C) "kept_rows" = some none)
    (zisinstance : PySem.W.nsIn K mainGlobals "isinstance" = some none)
    (zint : PySem.W.nsIn K mainGlobals "int" = some none)
    (zbool : PySem.W.nsIn K mainGlobals "bool" = some none)
    (zstr : PySem.W.nsIn K mainGlobals "str" = some none)
    (zlen : PySem.W.nsIn K mainGlobals "len" = some none)
    (zall : PySem.W.nsIn K mainGlobals "all" = some none)
    (ztuple : PySem.W.nsIn K mainGlobals "tuple" = some none)
    (zlist : PySem.W.nsIn K mainGlobals "list" = some none)
    (zsorted : PySem.W.nsIn K mainGlobals "sorted" = some none)
    (zenumerate : PySem.W.nsIn K mainGlobals "enumerate" = some none)
    (zrange : PySem.W.nsIn K mainGlobals "range" = some none)
    (zmax : PySem.W.nsIn K mainGlobals "max" = some none)
    (zmin : PySem.W.nsIn K mainGlobals "min" = some none)
    (v0 : PySem.W.nsIn K mainGlobals "LETTERS" = some (some (.str lets t0)))
    (v1 : PySem.W.nsIn K mainGlobals "FIGURES" = some (some (.str figs t1)))
    (v2 : PySem.W.nsIn K mainGlobals "LONGEST_words" = some (some (.int 8 t2)))
    (v3 : PySem.W.nsIn K mainGlobals "LEAST_CELLS" = some (some (.int 16 t3)))
    (v4 : PySem.W.nsIn K mainGlobals "MOST_CELLS" = some (some (.int 240 t4)))
    (v5 : PySem.W.nsIn K mainGlobals "MOST_BLOCKS" = some (some (.int 40 t5)))
    (v6 : PySem.W.nsIn K mainGlobals "LONGEST_layouttexts" = some (some (.int 30 t6)))
    : ∃ fd : FuncData, (∀ (s : Shared) (v : Value), BindsTo s fd ⟨[v], []⟩ [("_law_script", v)]) ∧ ∀ base : Heap, K.In base → base.Ns mainGlobals mg → FnOk l.prog w K mg base CX0 7 fa fd ["_law_script"] (spLaw K) := by
  have e := hfa.symm.trans (PySem.W.mg_of X G DLaw.ns)
  cases e
  obtain ⟨dWhole, FWhole⟩ := DWhole.fn
  have bWhole := FWhole.binds (ps := ["thing"]) fun _ _ _ _ _ _ us hl => match us, hl with | [_], _ => rfl
  obtain ⟨dWithin, FWithin⟩ := DWithin.fn
  have bWithin := FWithin.binds (ps := ["thing", "low", "high"]) fun _ _ _ _ _ _ us hl => match us, hl with | [_, _, _], _ => rfl
  obtain ⟨dName, FName⟩ := DName.fn
  have bName := FName.binds (ps := ["thing"]) fun _ _ _ _ _ _ us hl => match us, hl with | [_], _ => rfl
  obtain ⟨dNeed, FNeed⟩ := DNeed.fn
  have bNeed := FNeed.binds (ps := ["thing"]) fun _ _ _ _ _ _ us hl => match us, hl with | [_], _ => rfl
  obtain ⟨dRow, FRow⟩ := DRow.fn
  have bRow := FRow.binds (ps := ["thing"]) fun _ _ _ _ _ _ us hl => match us, hl with | [_], _ => rfl
  obtain ⟨dShare, FShare⟩ := DShare.fn
  have bShare := FShare.binds (ps := ["row", "other"]) fun _ _ _ _ _ _ us hl => match us, hl with | [_, _], _ => rfl
  obtain ⟨dStart, FStart⟩ := DStart.fn
  have bStart := FStart.binds (ps := ["row"]) fun _ _ _ _ _ _ us hl => match us, hl with | [_], _ => rfl
  obtain ⟨dBRow, FBRow⟩ := DBRow.fn
  have bBRow := FBRow.binds (ps := ["row"]) fun _ _ _ _ _ _ us hl => match us, hl with | [_], _ => rfl
  obtain ⟨dWrite, FWrite⟩ := DWrite.fn
  have bWrite := FWrite.binds (ps := ["layout"]) fun _ _ _ _ _ _ us hl => match us, hl with | [_], _ => rfl
  obtain ⟨dPlain, FPlain⟩ := DPlain.fn
  have bPlain := FPlain.binds (ps := ["word"]) fun _ _ _ _ _ _ us hl => match us, hl with | [_], _ => rfl
  obtain ⟨dNumd, FNumd⟩ := DNumd.fn
  have bNumd := FNumd.binds (ps := ["words", "titles"]) fun _ _ _ _ _ _ us hl => match us, hl with | [_, _], _ => rfl
  obtain ⟨dRBlock, FRBlock⟩ := DRBlock.fn
  have bRBlock := FRBlock.binds (ps := ["text"]) fun _ _ _ _ _ _ us hl => match us, hl with | [_], _ => rfl
  obtain ⟨dRead, FRead⟩ := DRead.fn
  have bRead := FRead.binds (ps := ["text"]) fun _ _ _ _ _ _ us hl => match us, hl with | [_], _ => rfl
  obtain ⟨dCell, FCell⟩ := DCell.fn
  have bCell := FCell.binds (ps := ["_law_script", "_law_k"]) fun _ _ _ _ _ _ us hl => match us, hl with | [_, _], _ => rfl
  obtain ⟨dBox, FBox⟩ := DBox.fn
  have bBox := FBox.binds (ps := ["_law_cell"]) fun _ _ _ _ _ _ us hl => match us, hl with | [_], _ => rfl
  obtain ⟨dTake, FTake⟩ := DTake.fn
  have bTake := FTake.binds (ps := ["_law_box_here", "_law_many_here"]) fun _ _ _ _ _ _ us hl => match us, hl with | [_, _], _ => rfl
  obtain ⟨dNames, FNames⟩ := DNames.fn
  have bNames := FNames.binds (ps := ["_law_box_here", "_law_many_here"]) fun _ _ _ _ _ _ us hl => match us, hl with | [_, _], _ => rfl
  obtain ⟨dMany, FMany⟩ := DMany.fn
  have bMany := FMany.binds (ps := ["_law_box_here"]) fun _ _ _ _ _ _ us hl => match us, hl with | [_], _ => rfl
  obtain ⟨dRows, FRows⟩ := DRows.fn
  have bRows := FRows.binds (ps := ["_law_box_here", "_law_many_here"]) fun _ _ _ _ _ _ us hl => match us, hl with | [_, _], _ => rfl
  obtain ⟨dMixed, FMixed⟩ := DMixed.fn
  have bMixed := FMixed.binds (ps := ["_law_box_here", "_law_some"]) fun _ _ _ _ _ _ us hl => match us, hl with | [_, _], _ => rfl
  obtain ⟨dRText, FRText⟩ := DRText.fn
  have bRText := FRText.binds (ps := ["_law_row"]) fun _ _ _ _ _ _ us hl => match us, hl with | [_], _ => rfl
  obtain ⟨dLaw, FLaw⟩ := DLaw.fn
  obtain ⟨dInit, FInit⟩ := DInit.fn
  have bInit := FInit.binds (ps := ["self", "many", "rows"]) fun _ _ _ _ _ _ us hl => match us, hl with | [_, _, _], _ => rfl
  obtain ⟨dCheck, FCheck⟩ := DCheck.fn
  have bCheck := FCheck.binds (ps := ["self", "row", "ahead"]) fun _ _ _ _ _ _ us hl => match us, hl with | [_, _, _], _ => rfl
  obtain ⟨dBlocks, FBlocks⟩ := DBlocks.fn
  have bBlocks := FBlocks.binds (ps := ["self"]) fun _ _ _ _ _ _ us hl => match us, hl with | [_], _ => rfl
  have mWhole := PySem.W.mg_of X G DWhole.ns
  have mWithin := PySem.W.mg_of X G DWithin.ns
  have mName := PySem.W.mg_of X G DName.ns
  have mNeed := PySem.W.mg_of X G DNeed.ns
  have mRow := PySem.W.mg_of X G DRow.ns
  have mShare := PySem.W.mg_of X G DShare.ns
  have mStart := PySem.W.mg_of X G DStart.ns
  have mBRow := PySem.W.mg_of X G DBRow.ns
  have mWrite := PySem.W.mg_of X G DWrite.ns
  have mPlain := PySem.W.mg_of X G DPlain.ns
  have mNumd := PySem.W.mg_of X G DNumd.ns
  have mRBlock := PySem.W.mg_of X G DRBlock.ns
  have mRead := PySem.W.mg_of X G DRead.ns
  have mCell := PySem.W.mg_of X G DCell.ns
  have mBox := PySem.W.mg_of X G DBox.ns
  have mTake := PySem.W.mg_of X G DTake.ns
  have mNames := PySem.W.mg_of X G DNames.ns
  have mMany := PySem.W.mg_of X G DMany.ns
  have mRows := PySem.W.mg_of X G DRows.ns
  have mMixed := PySem.W.mg_of X G DMixed.ns
  have mRText := PySem.W.mg_of X G DRText.ns
  have mLaw := PySem.W.mg_of X G DLaw.ns
  have nisinstance := PySem.W.mg_none_of X G zisinstance
  have nint := PySem.W.mg_none_of X G zint
  have nbool := PySem.W.mg_none_of X G zbool
  have nstr := PySem.W.mg_none_of X G zstr
  have nlen := PySem.W.mg_none_of X G zlen
  have nall := PySem.W.mg_none_of X G zall
  have ntuple := PySem.W.mg_none_of X G ztuple
  have nlist := PySem.W.mg_none_of X G zlist
  have nsorted := PySem.W.mg_none_of X G zsorted
  have nenumerate := PySem.W.mg_none_of X G zenumerate
  have nrange := PySem.W.mg_none_of X G zrange
  have nmax := PySem.W.mg_none_of X G zmax
  have nmin := PySem.W.mg_none_of X G zmin
  have c0 := PySem.W.mg_of X G v0
  have c1 := PySem.W.mg_of X G v1
  have c2 := PySem.W.mg_of X G v2
  have c3 := PySem.W.mg_of X G v3
  have c4 := PySem.W.mg_of X G v4
  have c5 := PySem.W.mg_of X G v5
  have c6 := PySem.W.mg_of X G v6
  have mC := PySem.W.mg_of X G aC
  have cl : Cls K C := ⟨pg, hd, po, sa⟩
  have bind : ∀ (s : Shared) (v : Value), BindsTo s dLaw ⟨[v], []⟩ [("_law_script", v)] := by
    obtain ⟨oc, od, kV, doc, pm, an, cdv, ct, osl, rfl, lk, hcd⟩ := FLaw.ex
    exact fun s v => .of_eq rfl
  refine ⟨dLaw, bind, fun base _ _ => ?_⟩
  have gWhole : FnOk l.prog w K mg base CX0 1 fWhole dWhole ["thing"] spWhole := ok_whole (k := 0) FWhole nisinstance nint nbool
  have gWithin : FnOk l.prog w K mg base CX0 2 fWithin dWithin ["thing", "low", "high"] spWithin := ok_within (k := 0) FWithin gWhole FWhole.kp bWhole mWhole
  have gNeed : FnOk l.prog w K mg base CX0 3 fNeed dNeed ["thing"] spNeed := ok_need (k := 0) FNeed gWithin FWithin.kp bWithin mWithin c3 c4
  have gName : FnOk l.prog w K mg base CX0 1 fName dName ["thing"] spName := ok_name (k := 0) FName nisinstance nstr nlen nall c0 c1 c2
  have gRow : FnOk l.prog w K mg base CX0 2 fRow dRow ["thing"] spRowIs := ok_row (k := 0) FRow gName FName.kp bName mName gWhole FWhole.kp bWhole mWhole nisinstance ntuple nlen nall
  have gShare : FnOk l.prog w K mg base CX0 2 fShare dShare ["row", "other"] spShare := ok_share (k := 1) FShare
  have gCheck : FnOk l.prog w K mg base CX0 3 fCheck dCheck ["self", "row", "ahead"] (spCheck C) := ok_check (k := 0) FCheck cl nM gRow FRow.kp bRow mRow gShare FShare.kp bShare mShare
  have gInit : FnOk l.prog w K mg base CX0 4 fInit dInit ["self", "many", "rows"] (spInit C) := ok_init (k := 0) FInit cl nM nR gNeed FNeed.kp bNeed mNeed gCheck bCheck ⟨DCheck.find, DCheck.isf, FCheck.kp⟩ FStart bStart mStart nisinstance nlist nlen nsorted c5
  have gBlocks : FnOk l.prog w K mg base CX0 1 fBlocks dBlocks ["self"] (spBlocks C) := ok_blocks (k := 0) FBlocks cl nR nlist
  have gBRow : FnOk l.prog w K mg base CX0 1 fBRow dBRow ["row"] spBRow := ok_brow (k := 0) FBRow
  have gWrite : FnOk l.prog w K mg base CX0 2 fWrite dWrite ["layout"] (spWrite C) := ok_write (k := 0) FWrite cl nM gBlocks bBlocks ⟨DBlocks.find, DBlocks.isf, FBlocks.kp⟩ gBRow FBRow.kp bBRow mBRow
  have gPlain : FnOk l.prog w K mg base CX0 1 fPlain dPlain ["word"] spPlain := ok_plain (k := 0) FPlain nlen nall nint c1 c6
  have gNumd : FnOk l.prog w K mg base CX0 2 fNumd dNumd ["words", "titles"] spNumd := ok_numd (k := 0) FNumd nlen nenumerate gPlain FPlain.kp bPlain mPlain
  have gRBlock : FnOk l.prog w K mg base CX0 3 fRBlock dRBlock ["text"] spRBlock := ok_rblock (k := 0) FRBlock gName FName.kp bName mName gNumd FNumd.kp bNumd mNumd
  have made : Mk K C fInit := ⟨mk, DInit.find, DInit.isf, kc⟩
  have gRead : FnOk l.prog w K mg base CX0 6 fRead dRead ["text"] (spRead C) := ok_read (k := 0) FRead nisinstance nstr nenumerate gNumd FNumd.kp bNumd mNumd gRBlock FRBlock.kp bRBlock mRBlock made gInit bInit mC
  have gCell : FnOk l.prog w K mg base CX0 1 fCell dCell ["_law_script", "_law_k"] (spCell K) := ok_cell (k := 0) FCell nlen
  have gBox : FnOk l.prog w K mg base CX0 1 fBox dBox ["_law_cell"] spBox := ok_box (k := 0) FBox
  have gTake : FnOk l.prog w K mg base CX0 1 fTake dTake ["_law_box_here", "_law_many_here"] spTake := ok_take (k := 0) FTake
  have gNames : FnOk l.prog w K mg base CX0 2 fNames dNames ["_law_box_here", "_law_many_here"] spNames := ok_names (k := 0) FNames nrange gTake FTake.kp bTake mTake
  have gMany : FnOk l.prog w K mg base CX0 2 fMany dMany ["_law_box_here"] spMany := ok_many (k := 0) FMany gTake FTake.kp bTake mTake
  have gRows : FnOk l.prog w K mg base CX0 3 fRows dRows ["_law_box_here", "_law_many_here"] spRows := ok_rows (k := 0) FRows nrange nint nmin gTake FTake.kp bTake mTake gNames FNames.kp bNames mNames
  have gMixed : FnOk l.prog w K mg base CX0 2 fMixed dMixed ["_law_box_here", "_law_some"] spMixed := ok_mixed (k := 0) FMixed nlist nlen gTake FTake.kp bTake mTake
  have gRText : FnOk l.prog w K mg base CX0 1 fRText dRText ["_law_row"] spRText := ok_rtext (k := 0) FRText nstr
  let c : LawCalls l.prog w K mg base C := ⟨fCell, fBox, fMany, fRows, fMixed, fRText, fWrite, fBlocks, fRead, fInit, dCell, dBox, dMany, dRows, dMixed, dRText, dWrite, dBlocks, dRead, dInit⟩
  have ok : CallsOk c 0 := { gC := gCell, gB := gBox, gM := gMany, gR := gRows, gX := gMixed, gT := gRText, gW := gWrite, gL := gBlocks, gD := gRead, gI := gInit, kC := FCell.kp, kB := FBox.kp, kM := FMany.kp, kR := FRows.kp, kX := FMixed.kp, kT := FRText.kp, kW := FWrite.kp, kD := FRead.kp, bC := bCell, bB := bBox, bM := bMany, bR := bRows, bX := bMixed, bT := bRText, bW := bWrite, bL := bBlocks, bD := bRead, bI := bInit, mC := mCell, mB := mBox, mM := mMany, mR := mRows, mX := mMixed, mT := mRText, mW := mWrite, mD := mRead, mY := mC, cl := cl, nM := nM, made := made, mt := ⟨DBlocks.find, DBlocks.isf, FBlocks.kp⟩, len := nlen, rng := nrange, mx := nmax, mn := nmin,str := nstr }
  exact ok_law (k := 0) (c := c) FLaw ok
theorem walk {l : PySem.W.OpenLaw} {q : Program} {loose : List Str} {XP : (Str → Option Value) → Heap → Prop} {YP : World → Heap → Prop} {d : DefRec} {K : Params → PySem.W.Frag} (hn : l.most = some 63) (hdf : d.params.defaults = [])
    (hY : ∀ (w : World) (h : Heap), YP w h → (K w.params).In h)
    (F : ∀ (w : World) (mg : Str → Option Value) (fa : Addr) (h : Heap), (K w.params).In h → h.Ns mainGlobals mg → mg d.name = some (.ref fa) →
      ∃ fd : FuncData, (∀ (s : Shared) (u : Value), BindsTo s fd ⟨[u], []⟩ [("_law_script", u)]) ∧ ∀ base : Heap, (K w.params).In base → base.Ns mainGlobals mg → FnOk l.prog w (K w.params) mg base CX0 7 fa fd ["_law_script"] (spLaw (K w.params))) :
    PySem.W.WalkO q loose XP YP l.row.toRowW d [] (fun f vs => PySem.call f vs) :=
  L2.walk_of (n := 63) (k := 7) (x := "_law_script") (CX := fun _ => CX0) (sp := fun w => spLaw (K w.params)) hn (by decide) hdf ⟨rfl, by decide, by decide⟩ hY F (fun _ _ a ns hl _ hS => ⟨a, ns, rfl, hS, hl, fun _ => rfl⟩) fun _ _ _ _ _ z => z
end K15

open PySem PySem.W PyProof.Rows
set_option maxRecDepth 100000 in
set_option maxHeartbeats 0 in
theorem PySem.Challenge.cw_slideroom_k15_whole_texts_both_ways_holds : PySem.Challenge.rw_slideroom_k15_whole_texts_both_ways.Holds := by
  w_on; o_law; k_head; (case hw => w_witness2)
  k_fill
  refine K15.walk (l := PySem.Challenge.rw_slideroom_k15_whole_texts_both_ways) rfl rfl (fun w h Y => PySem.W.kIn_of Y) ?F
  case F =>
    intro w mg fa h KX G hmg
    refine' K15.all_mk KX G hmg (K15.defAt_mk ?aWhole ?lWhole ?cWhole ?kWhole) (K15.defAt_mk ?aWithin ?lWithin ?cWithin ?kWithin) (K15.defAt_mk ?aName ?lName ?cName ?kName) (K15.defAt_mk ?aNeed ?lNeed ?cNeed ?kNeed) (K15.defAt_mk ?aRow ?lRow ?cRow ?kRow) (K15.defAt_mk ?aShare ?lShare ?cShare ?kShare) (K15.defAt_mk ?aStart ?lStart ?cStart ?kStart) (K15.defAt_mk ?aBRow ?lBRow ?cBRow ?kBRow) (K15.defAt_mk ?aWrite ?lWrite ?cWrite ?kWrite) (K15.defAt_mk ?aPlain ?lPlain ?cPlain ?kPlain) (K15.defAt_mk ?aNumd ?lNumd ?cNumd ?kNumd) (K15.defAt_mk ?aRBlock ?lRBlock ?cRBlock ?kRBlock) (K15.defAt_mk ?aRead ?lRead ?cRead ?kRead) (K15.defAt_mk ?aCell ?lCell ?cCell ?kCell) (K15.defAt_mk ?aBox ?lBox ?cBox ?kBox) (K15.defAt_mk ?aTake ?lTake ?cTake ?kTake) (K15.defAt_mk ?aNames ?lNames ?cNames ?kNames) (K15.defAt_mk ?aMany ?lMany ?cMany ?kMany) (K15.defAt_mk ?aRows ?lRows ?cRows ?kRows) (K15.defAt_mk ?aMixed ?lMixed ?cMixed ?kMixed) (K15.defAt_mk ?aRText ?lRText ?cRText ?kRText) (K15.defAt_mk ?aLaw ?lLaw ?cLaw ?kLaw) (K15.methAt_mk ?aInit ?iInit ?lInit ?cInit ?kInit) (K15.methAt_mk ?aCheck ?iCheck ?lCheck ?cCheck ?kCheck) (K15.methAt_mk ?aBlocks ?iBlocks ?lBlocks ?cBlocks ?kBlocks) ?aC ?pg ?hd ?po ?sa ?mk ?kc ?nM ?nR ?zisinstance ?zint ?zbool ?zstr ?zlen ?zall ?ztuple ?zlist ?zsorted ?zenumerate ?zrange ?zmax ?zmin ?v0 ?v1 ?v2 ?v3 ?v4 ?v5 ?v6
    (case aWhole => k_is)
    (case lWhole => k_is)
    (case cWhole => k_is)
    (case kWhole => k_is)
    (case aWithin => k_is)
    (case lWithin => k_is)
    (case cWithin => k_is)
    (case kWithin => k_is)
    (case aName => k_is)
    (case lName => k_is)
    (case cName => k_is)
    (case kName => k_is)
    (case aNeed => k_is)
    (case lNeed => k_is)
    (case cNeed => k_is)
    (case kNeed => k_is)
    (case aRow => k_is)
    (case lRow => k_is)
    (case cRow => k_is)
    (case kRow => k_is)
    (case aShare => k_is)
    (case lShare => k_is)
    (case cShare => k_is)
    (case kShare => k_is)
    (case aStart => k_is)
    (case lStart => k_is)
    (case cStart => k_is)
    (case kStart => k_is)
    (case aBRow => k_is)
    (case lBRow => k_is)
    (case cBRow => k_is)
    (case kBRow => k_is)
    (case aWrite => k_is)
    (case lWrite => k_is)
    (case cWrite => k_is)
    (case kWrite => k_is)
    (case aPlain => k_is)
    (case lPlain => k_is)
    (case cPlain => k_is)
    (case kPlain => k_is)
    (case aNumd => k_is)
    (case lNumd => k_is)
    (case cNumd => k_is)
    (case kNumd => k_is)
    (case aRBlock => k_is)
    (case lRBlock => k_is)
    (case cRBlock => k_is)
    (case kRBlock => k_is)
    (case aRead => k_is)
    (case lRead => k_is)
    (case cRead => k_is)
    (case kRead => k_is)
    (case aCell => k_is)
    (case lCell => k_is)
    (case cCell => k_is)
    (case kCell => k_is)
    (case aBox => k_is)
    (case lBox => k_is)
    (case cBox => k_is)
    (case kBox => k_is)
    (case aTake => k_is)
    (case lTake => k_is)
    (case cTake => k_is)
    (case kTake => k_is)
    (case aNames => k_is)
    (case lNames => k_is)
    (case cNames => k_is)
    (case kNames => k_is)
    (case aMany => k_is)
    (case lMany => k_is)
    (case cMany => k_is)
    (case kMany => k_is)
    (case aRows => k_is)
    (case lRows => k_is)
    (case cRows => k_is)
    (case kRows => k_is)
    (case aMixed => k_is)
    (case lMixed => k_is)
    (case cMixed => k_is)
    (case kMixed => k_is)
    (case aRText => k_is)
    (case lRText => k_is)
    (case cRText => k_is)
    (case kRText => k_is)
    (case aLaw => k_is)
    (case lLaw => k_is)
    (case cLaw => k_is)
    (case kLaw => k_is)
    (case aC => k_is)
    (case aInit => k_is)
    (case iInit => k_is)
    (case lInit => k_is)
    (case cInit => k_is)
    (case kInit => k_is)
    (case aCheck => k_is)
    (case iCheck => k_is)
    (case lCheck => k_is)
    (case cCheck => k_is)
    (case kCheck => k_is)
    (case aBlocks => k_is)
    (case iBlocks => k_is)
    (case lBlocks => k_is)
    (case cBlocks => k_is)
    (case kBlocks => k_is)
    (case pg => k_is)
    (case hd => k_is)
    (case po => k_is)
    (case sa => k_is)
    (case mk => k_is)
    (case kc => k_is)
    (case nM => k_is)
    (case nR => k_is)
    (case zisinstance => k_is)
    (case zint => k_is)
    (case zbool => k_is)
    (case zstr => k_is)
    (case zlen => k_is)
    (case zall => k_is)
    (case ztuple => k_is)
    (case zlist => k_is)
    (case zsorted => k_is)
    (case zenumerate => k_is)
    (case zrange => k_is)
    (case zmax => k_is)
    (case zmin => k_is)
    (case v0 => k_is)
    (case v1 => k_is)
    (case v2 => k_is)
    (case v3 => k_is)
    (case v4 => k_is)
    (case v5 => k_is)
    (case v6 => k_is)
