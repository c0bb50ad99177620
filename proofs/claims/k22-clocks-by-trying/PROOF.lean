import PyProof.Rows.All
import Wide.All
import OpenK.AllK
import Wide.FinOn
import HandS.ForMost
import HandS.Flow
import HandS.Star
import HandS.Style
import HandS.IsInst
import HandS.More
import HandS.Zip
import HandS.Evl
import HandS.Walk
import PySem.Challenge.RW_suredue_k22_whole_clocks_by_trying
set_option Elab.async false
set_option linter.all false
set_option maxRecDepth 100000
namespace Clk
open PySem PySem.Spec PyProof.Rows L2
/-! ### the text: each def, its slots, its scope -/
def topS (i : Nat) : Stmt := PySem.Challenge.pw_suredue_k22_whole_clocks_by_trying.main.body.getD i (.Pass ⟨0, 0, 0, 0⟩)
abbrev s_look_at : Stmt := topS 1
abbrev N_look_at : List Str := ["times", "moment"]
theorem sc_look_at : FnScope N_look_at ["times", "moment"] (defScope s_look_at) := ⟨rfl, rfl, rfl, by decide +kernel, rfl, by decide +kernel, by decide +kernel⟩
abbrev s_look_by : Stmt := topS 2
abbrev N_look_by : List Str := ["times", "moment"]
theorem sc_look_by : FnScope N_look_by ["times", "moment"] (defScope s_look_by) := ⟨rfl, rfl, rfl, by decide +kernel, rfl, by decide +kernel, by decide +kernel⟩
abbrev s_least_wait : Stmt := topS 4
abbrev N_least_wait : List Str := ["delay", "look"]
theorem sc_least_wait : FnScope N_least_wait ["delay", "look"] (defScope s_least_wait) := ⟨rfl, rfl, rfl, by decide +kernel, rfl, by decide +kernel, by decide +kernel⟩
abbrev s_enough_wait : Stmt := topS 5
abbrev N_enough_wait : List Str := ["times"]
theorem sc_enough_wait : FnScope N_enough_wait ["times"] (defScope s_enough_wait) := ⟨rfl, rfl, rfl, by decide +kernel, rfl, by decide +kernel, by decide +kernel⟩
abbrev s_show_by : Stmt := topS 6
abbrev N_show_by : List Str := ["times", "end"]
theorem sc_show_by : FnScope N_show_by ["times", "end"] (defScope s_show_by) := ⟨rfl, rfl, rfl, by decide +kernel, rfl, by decide +kernel, by decide +kernel⟩
abbrev s_close_by : Stmt := topS 7
abbrev N_close_by : List Str := ["times", "end", "last"]
theorem sc_close_by : FnScope N_close_by ["times", "end"] (defScope s_close_by) := ⟨rfl, rfl, rfl, by decide +kernel, rfl, by decide +kernel, by decide +kernel⟩
abbrev s_in_time : Stmt := topS 8
abbrev N_in_time : List Str := ["times", "moment", "end", "last"]
theorem sc_in_time : FnScope N_in_time ["times", "moment", "end"] (defScope s_in_time) := ⟨rfl, rfl, rfl, by decide +kernel, rfl, by decide +kernel, by decide +kernel⟩
abbrev s_least_in_end : Stmt := topS 9
abbrev N_least_in_end : List Str := ["times", "out_end"]
theorem sc_least_in_end : FnScope N_least_in_end ["times", "out_end"] (defScope s_least_in_end) := ⟨rfl, rfl, rfl, by decide +kernel, rfl, by decide +kernel, by decide +kernel⟩
abbrev s_enough_gap : Stmt := topS 10
abbrev N_enough_gap : List Str := ["times", "in_end", "out_end"]
theorem sc_enough_gap : FnScope N_enough_gap ["times", "in_end", "out_end"] (defScope s_enough_gap) := ⟨rfl, rfl, rfl, by decide +kernel, rfl, by decide +kernel, by decide +kernel⟩
abbrev s_go_by : Stmt := topS 11
abbrev N_go_by : List Str := ["times", "in_end", "out_end", "last"]
theorem sc_go_by : FnScope N_go_by ["times", "in_end", "out_end"] (defScope s_go_by) := ⟨rfl, rfl, rfl, by decide +kernel, rfl, by decide +kernel, by decide +kernel⟩
abbrev s_least_ends : Stmt := topS 12
abbrev N_least_ends : List Str := ["times", "many", "last", "found", "_"]
theorem sc_least_ends : FnScope N_least_ends ["times", "many", "last"] (defScope s_least_ends) := ⟨rfl, rfl, rfl, by decide +kernel, rfl, by decide +kernel, by decide +kernel⟩
abbrev s_begin_by : Stmt := topS 13
abbrev N_begin_by : List Str := ["times", "ends", "found", "end"]
theorem sc_begin_by : FnScope N_begin_by ["times", "ends"] (defScope s_begin_by) := ⟨rfl, rfl, rfl, by decide +kernel, rfl, by decide +kernel, by decide +kernel⟩
abbrev s_settled_by : Stmt := topS 14
abbrev N_settled_by : List Str := ["times", "moment", "ends"]
theorem sc_settled_by : FnScope N_settled_by ["times", "moment", "ends"] (defScope s_settled_by) := ⟨rfl, rfl, rfl, by decide +kernel, rfl, by decide +kernel, by decide +kernel⟩
abbrev s_law_box : Stmt := topS 16
abbrev N_law_box : List Str := ["_law_script", "_law_k", "_law_bit_so"]
theorem sc_law_box : FnScope N_law_box ["_law_script", "_law_k"] (defScope s_law_box) := ⟨rfl, rfl, rfl, by decide +kernel, rfl, by decide +kernel, by decide +kernel⟩
abbrev s_law_take : Stmt := topS 17
abbrev N_law_take : List Str := ["_law_tin", "_law_below_so", "_law_drawn", "_law_once_so", "_law_wide_so", "_law_twice_so"]
theorem sc_law_take : FnScope N_law_take ["_law_tin", "_law_below_so"] (defScope s_law_take) := ⟨rfl, rfl, rfl, by decide +kernel, rfl, by decide +kernel, by decide +kernel⟩
abbrev s_law_cells : Stmt := topS 18
abbrev N_law_cells : List Str := ["_law_script", "_law_most_so", "_law_cells_so", "_law_k", "_law_bit_so", "_law_at_so"]
theorem sc_law_cells : FnScope N_law_cells ["_law_script", "_law_most_so"] (defScope s_law_cells) := ⟨rfl, rfl, rfl, by decide +kernel, rfl, by decide +kernel, by decide +kernel⟩
abbrev s_law_of : Stmt := topS 19
abbrev N_law_of : List Str := ["_law_tin", "_law_goods_so"]
theorem sc_law_of : FnScope N_law_of ["_law_tin", "_law_goods_so"] (defScope s_law_of) := ⟨rfl, rfl, rfl, by decide +kernel, rfl, by decide +kernel, by decide +kernel⟩
abbrev s_law_same : Stmt := topS 20
abbrev N_law_same : List Str := ["_law_got", "_law_due", "_law_mine", "_law_its"]
theorem sc_law_same : FnScope N_law_same ["_law_got", "_law_due"] (defScope s_law_same) := ⟨rfl, rfl, rfl, by decide +kernel, rfl, by decide +kernel, by decide +kernel⟩
abbrev s_law_at : Stmt := topS 21
abbrev N_law_at : List Str := ["_law_many_so", "_law_moment_so"]
theorem sc_law_at : FnScope N_law_at ["_law_many_so", "_law_moment_so"] (defScope s_law_at) := ⟨rfl, rfl, rfl, by decide +kernel, rfl, by decide +kernel, by decide +kernel⟩
abbrev s_law_show_by : Stmt := topS 22
abbrev N_law_show_by : List Str := ["_law_times_so", "_law_end_so", "_law_looks_so", "_law_own"]
theorem sc_law_show_by : FnScope N_law_show_by ["_law_times_so", "_law_end_so"] (defScope s_law_show_by) := ⟨rfl, rfl, rfl, by decide +kernel, rfl, by decide +kernel, by decide +kernel⟩
abbrev s_law_close_by : Stmt := topS 23
abbrev N_law_close_by : List Str := ["_law_times_so", "_law_end_so", "_law_last_so"]
theorem sc_law_close_by : FnScope N_law_close_by ["_law_times_so", "_law_end_so"] (defScope s_law_close_by) := ⟨rfl, rfl, rfl, by decide +kernel, rfl, by decide +kernel, by decide +kernel⟩
abbrev s_law_in_end : Stmt := topS 24
abbrev N_law_in_end : List Str := ["_law_times_so", "_law_out_so"]
theorem sc_law_in_end : FnScope N_law_in_end ["_law_times_so", "_law_out_so"] (defScope s_law_in_end) := ⟨rfl, rfl, rfl, by decide +kernel, rfl, by decide +kernel, by decide +kernel⟩
abbrev s_law_by_hand_right : Stmt := topS 25
abbrev N_law_by_hand_right : List Str := ["_law_times", "_law_got"]
theorem sc_law_by_hand_right : FnScope N_law_by_hand_right [] (defScope s_law_by_hand_right) := ⟨rfl, rfl, rfl, by decide +kernel, rfl, by decide +kernel, by decide +kernel⟩
abbrev s_law_wait_needed : Stmt := topS 26
abbrev N_law_wait_needed : List Str := ["_law_delay_so", "_law_look_so", "_law_found", "_law_own"]
theorem sc_law_wait_needed : FnScope N_law_wait_needed ["_law_delay_so", "_law_look_so"] (defScope s_law_wait_needed) := ⟨rfl, rfl, rfl, by decide +kernel, rfl, by decide +kernel, by decide +kernel⟩
abbrev s_law_right : Stmt := topS 27
abbrev N_law_right : List Str := ["_law_tin", "_law_times", "_law_soft", "_law_need_so", "_law_got", "_law_lap", "_law_end_so", "_law_out_so", "_law_moment_so", "_law_last_so", "_law_first_so", "_law_due", "_law_least_so", "_law_in_so", "_law_by_so"]
theorem sc_law_right : FnScope N_law_right ["_law_tin"] (defScope s_law_right) := ⟨rfl, rfl, rfl, by decide +kernel, rfl, by decide +kernel, by decide +kernel⟩
abbrev s_law_routes_right : Stmt := topS 28
abbrev N_law_routes_right : List Str := ["_law_tin", "_law_times", "_law_many_so", "_law_last_so", "_law_ends_so", "_law_some_so", "_law_lap", "_law_looks_so", "_law_own", "_law_moment_so", "_law_got", "_law_free_so", "_law_due"]
theorem sc_law_routes_right : FnScope N_law_routes_right ["_law_tin", "_law_times"] (defScope s_law_routes_right) := ⟨rfl, rfl, rfl, by decide +kernel, rfl, by decide +kernel, by decide +kernel⟩
abbrev s_law : Stmt := topS 29
abbrev N_law : List Str := ["_law_script"]
theorem sc_law : FnScope N_law ["_law_script"] (defScope s_law) := ⟨rfl, rfl, rfl, by decide +kernel, rfl, by decide +kernel, by decide +kernel⟩
/-! ### the mathematics: what each def is worth, over whole numbers alone -/
def lookAt (l m : Int) : Int := l * -((-m).fdiv l)
def lookBy (l m : Int) : Option Int := if m < 0 then none else some (l * m.fdiv l)
def showBy (d l e : Int) : Option Int := lookBy l (e - d)
def closeBy (d l e : Int) : Option Int := match showBy d l e with
  | none => none
  | some x => lookBy l (x - d)
def inTime (d l m e : Int) : Bool := match closeBy d l e with
  | none => false
  | some x => decide (m ≤ x)
def leastIn (d l o : Int) : Int := lookAt l o + d
def goBy (d l i o : Int) : Option Int := match closeBy d l i with
  | none => none
  | some x => if x < lookAt l o then some x else none
def endsOf (d l last : Int) : Nat → List Int
  | 0 => [last]
  | n + 1 => leastIn d l ((endsOf d l last n).headD 0) :: endsOf d l last n
theorem endsOf_len (d l last : Int) : ∀ n, (endsOf d l last n).length = n + 1
  | 0 => rfl
  | n + 1 => by
    show (endsOf d l last n).length + 1 = n + 1 + 1
    rw [endsOf_len d l last n]
theorem endsOf_ne (d l last : Int) (n : Nat) : ∃ x r, endsOf d l last n = x :: r := by
  cases h : endsOf d l last n with
  | nil =>
    have := endsOf_len d l last n
    rw [h] at this
    cases this
  | cons x r => exact ⟨x, r, rfl⟩
theorem mul_lt_one {l a b : Int} (hl : 0 < l) (h : l * a < l * b + l) : a ≤ b := by
  apply Int.le_of_lt_add_one
  apply Int.lt_of_mul_lt_mul_left (a := l) _ (Int.le_of_lt hl)
  rw [Int.mul_add, Int.mul_one]
  exact h
theorem lookAt_le {l : Int} (m : Int) (hl : 0 < l) : m ≤ lookAt l m := by
  unfold lookAt
  rw [Int.fdiv_eq_ediv_of_nonneg _ (Int.le_of_lt hl), Int.mul_neg]
  have h1 := Int.mul_ediv_self_le (x := -m) (k := l) (by omega)
  omega
theorem lookAt_lt {l : Int} (m : Int) (hl : 0 < l) : lookAt l m < m + l := by
  unfold lookAt
  rw [Int.fdiv_eq_ediv_of_nonneg _ (Int.le_of_lt hl), Int.mul_neg]
  have h2 := Int.lt_mul_ediv_self_add (x := -m) (k := l) hl
  omega
theorem lookAt_of {l m k : Int} (hl : 0 < l) (h1 : m ≤ l * k) (h2 : l * k < m + l) : lookAt l m = l * k := by
  have a := lookAt_le m hl
  have b := lookAt_lt m hl
  unfold lookAt at a b ⊢
  have c := mul_lt_one (a := -((-m).fdiv l)) (b := k) hl (by omega)
  have d := mul_lt_one (a := k) (b := -((-m).fdiv l)) hl (by omega)
  have e : -((-m).fdiv l) = k := by omega
  rw [e]
theorem fmod_split (m l : Int) (hl : 0 < l) : m = l * (m / l) + m.fmod l ∧ 0 ≤ m.fmod l ∧ m.fmod l < l := by
  rw [Int.fmod_eq_emod_of_nonneg _ (Int.le_of_lt hl)]
  have h1 := Int.mul_ediv_add_emod m l
  have h2 := Int.emod_nonneg m (show l ≠ 0 by omega)
  have h3 := Int.emod_lt_of_pos m hl
  omega
theorem lookAt_self {l m : Int} (hl : 0 < l) (h : m.fmod l = 0) : lookAt l m = m := by
  obtain ⟨e, _, _⟩ := fmod_split m l hl
  rw [h, Int.add_zero] at e
  have := lookAt_of (m := m) (k := m / l) hl (by omega) (by omega)
  omega
theorem lookAt_step {l m : Int} (hl : 0 < l) (h : m.fmod l ≠ 0) : lookAt l (m + 1) = lookAt l m := by
  obtain ⟨e, h0, h1⟩ := fmod_split m l hl
  have e2 : l * (m / l + 1) = l * (m / l) + l := by rw [Int.mul_add, Int.mul_one]
  rw [lookAt_of (m := m) (k := m / l + 1) hl (by omega) (by omega), lookAt_of (m := m + 1) (k := m / l + 1) hl (by omega) (by omega)]
theorem lookAt_first {l m : Int} (h1 : 1 ≤ m) (h2 : m ≤ l) : lookAt l m = l := by
  have := lookAt_of (l := l) (m := m) (k := 1) (by omega) (by omega) (by omega)
  omega
theorem lookAt_nn {l m : Int} (hl : 0 < l) (h : 0 ≤ m) : 0 ≤ lookAt l m := Int.le_trans h (lookAt_le m hl)
/-- looks gone through: which of 0, l, 2 l, .. are at most e - d -/
def cnt (d l e : Int) : Nat := if e - d < 0 then 0 else ((e - d) / l).toNat + 1
theorem cnt_iff {d l e : Int} (hl : 0 < l) (i : Nat) : (i : Int) * l + d ≤ e ↔ i < cnt d l e := by
  unfold cnt
  split
  · rename_i h
    have h0 : 0 ≤ (i : Int) * l := Int.mul_nonneg (Int.natCast_nonneg i) (Int.le_of_lt hl)
    omega
  · rename_i h
    have h1 : (i : Int) ≤ (e - d) / l ↔ (i : Int) * l ≤ e - d := Int.le_ediv_iff_mul_le hl
    have h2 : 0 ≤ (e - d) / l := Int.ediv_nonneg (by omega) (by omega)
    omega
theorem cnt_show {d l e : Int} (hl : 0 < l) : showBy d l e = if cnt d l e = 0 then none else some ((((cnt d l e - 1 : Nat) : Int)) * l) := by
  unfold showBy lookBy cnt
  by_cases h : e - d < 0
  · rw [if_pos h, if_pos h, if_pos rfl]
  · rw [if_neg h, if_neg h, if_neg (by omega)]
    have h2 : 0 ≤ (e - d) / l := Int.ediv_nonneg (by omega) (by omega)
    rw [Int.fdiv_eq_ediv_of_nonneg _ (Int.le_of_lt hl), Int.mul_comm]
    congr 2
    omega
/-- how many turns range(0, e + 1, l) takes -/
def turns (l e : Int) : Nat := (e / l).toNat + 1
theorem cnt_turns {d l e : Int} (hl : 0 < l) (hd : 0 ≤ d) (he : 0 ≤ e) : cnt d l e ≤ turns l e := by
  unfold cnt turns
  split
  · omega
  · have h1 : (e - d) / l ≤ e / l := Int.ediv_le_ediv hl (by omega)
    omega
theorem lookBy_le {l m x : Int} (hl : 0 < l) (h : lookBy l m = some x) : 0 ≤ x ∧ x ≤ m := by
  unfold lookBy at h
  split at h
  · cases h
  · rename_i h0
    have e := Option.some.inj h
    rw [Int.fdiv_eq_ediv_of_nonneg _ (Int.le_of_lt hl)] at e
    have h1 := Int.mul_ediv_self_le (x := m) (k := l) (by omega)
    have h2 : 0 ≤ l * (m / l) := Int.mul_nonneg (by omega) (Int.ediv_nonneg (by omega) (by omega))
    omega
theorem showBy_le {d l e x : Int} (hl : 0 < l) (h : showBy d l e = some x) : 0 ≤ x ∧ x ≤ e - d := lookBy_le hl h
theorem closeBy_le {d l e x : Int} (hl : 0 < l) (hd : 0 ≤ d) (h : closeBy d l e = some x) : 0 ≤ x ∧ x ≤ e := by
  unfold closeBy at h
  split at h
  · cases h
  · rename_i y hy
    have a := showBy_le hl hy
    have b := lookBy_le hl h
    omega
/-- None, or the number -/
def vO : Option Int → V
  | none => .non
  | some x => .int x
theorem vO_non (o : Option Int) : decide (vO o = V.non) = o.isNone := by
  cases o <;> simp [vO]
/-- the last looks of several ends -/
def least (os : List (Option Int)) (m : Option Int) : Prop := (none ∈ os ∧ m = none) ∨ (none ∉ os ∧ ∃ x, m = some x ∧ some x ∈ os ∧ ∀ y, some y ∈ os → x ≤ y)
theorem least_one {os : List (Option Int)} {m k : Option Int} (h1 : least os m) (h2 : least os k) : m = k := by
  rcases h1 with ⟨a, b⟩ | ⟨a, x, b, c, d⟩
  · rcases h2 with ⟨_, b'⟩ | ⟨a', _⟩
    · rw [b, b']
    · exact absurd a a'
  · rcases h2 with ⟨a', _⟩ | ⟨_, y, b', c', d'⟩
    · exact absurd a' a
    · rw [b, b', Int.le_antisymm (d y c') (d' x c)]
/-! ### what the module's names hold -/
structure Blt (mg : Str → Option Value) : Prop where
  len : mg "len" = none
  abs : mg "abs" = none
  all : mg "all" = none
  min : mg "min" = none
  max : mg "max" = none
  isinstance : mg "isinstance" = none
  range : mg "range" = none
  enumerate : mg "enumerate" = none
  zip : mg "zip" = none
  t_list : mg "list" = none
  t_tuple : mg "tuple" = none
  t_bool : mg "bool" = none
  t_str : mg "str" = none
  t_int : mg "int" = none
/-- a def of the module that keeps its promise, as a caller meets it -/
def Cal (P : Program) (w : World) (K : PySem.W.Frag) (mg : Str → Option Value) (base : Heap) (k : Nat) (x : Str) (ps : List Str) (sp : Sp) : Prop :=
  ∃ (f : Addr) (fd : FuncData), FnOk P w K mg base CX0 k f fd ps sp ∧ mg x = some (.ref f) ∧ PySem.W.keepIn K (.ref f) = true ∧ Binds K fd ps []
section
variable {X : Cx} {k j : Nat} {x : Str} {ps : List Str} {sp : Sp} {e : Expr} {es : List Expr} {t : TA} {p pos : Pos}
theorem pe_fn (C : Cal X.prog X.w X.K X.mg X.base k x ps sp) (hr : Room j X.A) (hg : Gl X x) (ha : PA X (e :: es) t) (hk : k ≤ j := by first | decide | omega) (hdb : (x == ("__debug__" : Str)) = false := by decide)
    (he : starEach (e :: es) X.env = (false, eval e X.env) :: starEach es X.env := by rfl) (hpl : (backTo pos (starEach es X.env)).any (·.1) = false := by rfl) : PE X (.Call (.Name x p) (e :: es) [] pos) (tCall sp [] E0 t) := by
  obtain ⟨f, fd, F, hm, hkp, hb⟩ := C
  exact pe_call F (hr.mono hk) hg hm hkp hb .nil pass0 ha hdb he hpl
theorem pe_fn0 (C : Cal X.prog X.w X.K X.mg X.base k x [] sp) (hr : Room j X.A) (hg : Gl X x) (hk : k ≤ j := by first | decide | omega) (hdb : (x == ("__debug__" : Str)) = false := by decide) : PE X (.Call (.Name x p) [] [] pos) (tCall sp [] E0 tNil) := by
  obtain ⟨f, fd, F, hm, hkp, hb⟩ := C
  exact pe_call0 F (hr.mono hk) hg hm hkp hb .nil pass0 hdb
end
/-! ### heaps: all but the box at t is as it was -/
def Keep (t : Addr) (H H' : Hp) : Prop := ∀ b o, b ≠ t → H b = some o → H' b = some o
theorem Keep.refl (t : Addr) (H : Hp) : Keep t H H := fun _ _ _ h => h
theorem Keep.trans {t : Addr} {H H1 H2 : Hp} (a : Keep t H H1) (b : Keep t H1 H2) : Keep t H H2 := fun c o n h => b c o n (a c o n h)
theorem Keep.of {t : Addr} {H H' : Hp} (a : Same H H') : Keep t H H' := fun c o _ h => a c o h
theorem same_new {H : Hp} {p : Addr} {o : HO} (h : H p = none) : Same H (upd H p o) := fun b x e => by
  rw [upd_ne (ne_of_none e h)]
  exact e
theorem same_at {H H' : Hp} (s : Same H H') {a : Addr} {o : HO} (h : H a = some o) : H' a = some o := s a o h
theorem same_ne {H H' : Hp} (s : Same H H') {a p : Addr} {o : HO} (h : H a = some o) (n : H' p = none) : a ≠ p := ne_of_none (s a o h) n
/-- a change of an object that the elder heap did not know -/
theorem same_mut {H H' : Hp} {p : Addr} {o : HO} (e : Same H H') (h : H p = none) : Same H (upd H' p o) := fun a u ha => by
  rw [upd_ne (ne_of_none ha h)]
  exact e a u ha
theorem small100 {n : Nat} (h : n ≤ 100000) : n < sizeLine := Nat.lt_of_le_of_lt h (by decide)
theorem small100' {n : Nat} (h : n ≤ 100000) : n ≤ sizeLine := Nat.le_of_lt (small100 h)
/-- TIMES at a, a tuple or a list -/
structure Tm (H : Hp) (a : Addr) (d l w : Int) : Prop where
  at_ : H a = some (.tup [.int d, .int l, .int w]) ∨ H a = some (.lst [.int d, .int l, .int w])
  d0 : 0 < d
  d1 : d ≤ 1000
  l0 : 0 < l
  l1 : l ≤ 1000
theorem Tm.same {H H' : Hp} {a : Addr} {d l w : Int} (T : Tm H a d l w) (s : Same H H') : Tm H' a d l w :=
  ⟨T.at_.imp (s _ _) (s _ _), T.d0, T.d1, T.l0, T.l1⟩
theorem Tm.keep {H H' : Hp} {t a : Addr} {d l w : Int} (T : Tm H a d l w) (s : Keep t H H') (n : a ≠ t) : Tm H' a d l w :=
  ⟨T.at_.imp (s _ _ n) (s _ _ n), T.d0, T.d1, T.l0, T.l1⟩
theorem Tm.ix {K : PySem.W.Frag} {H : Hp} {a : Addr} {d l w : Int} (T : Tm H a d l w) (j : Nat) {v : V} (h : [V.int d, V.int l, V.int w][j]? = some v) {Q : VK} (q : Q v H) : rIx K (.ref a) (.int (j : Int)) H Q := by
  rcases T.at_ with e | e
  · exact .inr (.inl ⟨a, _, _, v, rfl, rfl, SqT.of e, atI_nat h, q⟩)
  · exact .inl ⟨a, _, _, v, rfl, rfl, SqL.of e, atI_nat h, q⟩
theorem Tm.mulL {H : Hp} {a : Addr} {d l w : Int} (T : Tm H a d l w) (x : Int) : CMul l x := .inl ⟨by have := T.l0; omega, by have := T.l1; omega⟩
theorem Tm.div {H : Hp} {a : Addr} {d l w : Int} (T : Tm H a d l w) : CDivN x l := ⟨by have := T.l0; omega, by have := T.l1; have := T.l0; omega⟩
/-! ### the same rules where the written part is named (in a comprehension's block) -/
theorem ix_seqK {X : Cx} {K : PySem.W.Frag} (h : X.K = K) : IxR X (rIx K) := by
  subst h
  exact ix_seq
theorem pg_tupK {X : Cx} {K : PySem.W.Frag} {es : List Expr} {k : Nat} {t : TGs} {n : Nat} {pos : Pos} (hK : X.K = K) (hc : X.calm = true) (h : PGs X es t)
    (hn : (assignEach es X.env).length = n := by rfl) (hst : (assignEach es X.env).findIdx? (·.1) = none := by rfl) : PG X (.Tuple es k pos) (gTup K n t) := by
  subst hK
  exact pg_tup hc h hn hst
end Clk
namespace Clk
open PySem PySem.Spec PyProof.Rows L2
section
variable {P : Program} {w : World} {K : PySem.W.Frag} {mg : Str → Option Value} {base : Heap}
/-! ### looks -/
def spLookAt : Sp := fun vs H Q _ => ∃ a d l w m, vs = [.ref a, .int m] ∧ Tm H a d l w ∧ Q (.int (lookAt l m)) H
theorem ok_look_at {f : Addr} {fd : FuncData} (F : Fun K "look_at" "look_at" s_look_at f fd) (hm : mg "look_at" = some (.ref f)) : Cal P w K mg base 1 "look_at" ["times", "moment"] spLookAt := by
  refine ⟨f, fd, F.ok sc_look_at (fun vs H Q E h => ?_) (fun cdv A outer s H vs Q E hr h => ?_), hm, F.kp, F.binds fun _ _ _ _ _ _ us hl => match us, hl with | [_, _], _ => rfl⟩
  · obtain ⟨a, d, l, w, m, rfl, _⟩ := h
    rfl
  · obtain ⟨a, d, l, w, m, rfl, T, q⟩ := h
    refine ⟨_, (pss_one (ps_ret (pe_op op_mul (pe_ix (ix_seqK (K := K) rfl) (pv 0) pe_int (fun _ _ => rfl)) (pe_un un_neg (pe_op op_fdivN (pe_un un_neg (pv 1)) (pe_ix (ix_seqK (K := K) rfl) (pv 0) pe_int (fun _ _ => rfl))))))), ?_⟩
    refine ⟨.ref a, rfl, T.ix 1 rfl ?_⟩
    refine ⟨.int m, rfl, m, rfl, ?_⟩
    refine ⟨.ref a, rfl, T.ix 1 rfl ?_⟩
    refine ⟨_, _, rfl, rfl, T.div, ?_⟩
    refine ⟨_, rfl, ?_⟩
    exact ⟨_, _, rfl, rfl, T.mulL _, q⟩
def spLookBy : Sp := fun vs H Q _ => ∃ a d l w m, vs = [.ref a, .int m] ∧ Tm H a d l w ∧ Q (vO (lookBy l m)) H
theorem ok_look_by {f : Addr} {fd : FuncData} (F : Fun K "look_by" "look_by" s_look_by f fd) (hm : mg "look_by" = some (.ref f)) : Cal P w K mg base 1 "look_by" ["times", "moment"] spLookBy := by
  refine ⟨f, fd, F.ok sc_look_by (fun vs H Q E h => ?_) (fun cdv A outer s H vs Q E hr h => ?_), hm, F.kp, F.binds fun _ _ _ _ _ _ us hl => match us, hl with | [_, _], _ => rfl⟩
  · obtain ⟨a, d, l, w, m, rfl, _⟩ := h
    rfl
  · obtain ⟨a, d, l, w, m, rfl, T, q⟩ := h
    refine ⟨_, (pss_one (ps_ret (pe_ifExp (pt_cmpR op_lt (pv 1) pe_int (nomark _)) pe_non (pe_op op_mul (pe_ix (ix_seqK (K := K) rfl) (pv 0) pe_int (fun _ _ => rfl)) (pe_op op_fdivN (pv 1) (pe_ix (ix_seqK (K := K) rfl) (pv 0) pe_int (fun _ _ => rfl))))))), ?_⟩
    refine ⟨.int m, rfl, m, 0, rfl, rfl, _, rfl, ite2 (fun e => ?_) (fun e => ?_)⟩
    · have e' : m < 0 := of_decide_eq_true e
      unfold lookBy at q
      rw [if_pos e'] at q
      exact q
    · have e' : ¬ m < 0 := fun z => e (decide_eq_true z)
      unfold lookBy at q
      rw [if_neg e'] at q
      refine ⟨.ref a, rfl, T.ix 1 rfl ?_⟩
      refine ⟨.int m, rfl, .ref a, rfl, T.ix 1 rfl ?_⟩
      refine ⟨_, _, rfl, rfl, T.div, ?_⟩
      exact ⟨_, _, rfl, rfl, T.mulL _, q⟩
/-! ### waits -/
def spLeastWait : Sp := fun vs H Q _ => ∃ d l : Int, vs = [.int d, .int l] ∧ Q (.int (d + l - 1)) H
theorem ok_least_wait {f : Addr} {fd : FuncData} (F : Fun K "least_wait" "least_wait" s_least_wait f fd) (hm : mg "least_wait" = some (.ref f)) : Cal P w K mg base 1 "least_wait" ["delay", "look"] spLeastWait := by
  refine ⟨f, fd, F.ok sc_least_wait (fun vs H Q E h => ?_) (fun cdv A outer s H vs Q E hr h => ?_), hm, F.kp, F.binds fun _ _ _ _ _ _ us hl => match us, hl with | [_, _], _ => rfl⟩
  · obtain ⟨d, l, rfl, _⟩ := h
    rfl
  · obtain ⟨d, l, rfl, q⟩ := h
    refine ⟨_, (pss_one (ps_ret (pe_op op_sub (pe_op op_add (pv 0) (pv 1)) pe_int))), ?_⟩
    exact ⟨_, rfl, _, rfl, _, _, rfl, rfl, _, _, rfl, rfl, q⟩
def spEnoughWait : Sp := fun vs H Q _ => ∃ a d l w, vs = [.ref a] ∧ Tm H a d l w ∧ Q (.bl (decide (d + l - 1 ≤ w))) H
theorem ok_enough_wait {f : Addr} {fd : FuncData} (F : Fun K "enough_wait" "enough_wait" s_enough_wait f fd) (hm : mg "enough_wait" = some (.ref f))
    (C_least_wait : Cal P w K mg base 1 "least_wait" ["delay", "look"] spLeastWait) : Cal P w K mg base 2 "enough_wait" ["times"] spEnoughWait := by
  refine ⟨f, fd, F.ok sc_enough_wait (fun vs H Q E h => ?_) (fun cdv A outer s H vs Q E hr h => ?_), hm, F.kp, F.binds fun _ _ _ _ _ _ us hl => match us, hl with | [_], _ => rfl⟩
  · obtain ⟨a, d, l, w, rfl, _⟩ := h
    rfl
  · obtain ⟨a, d, l, w, rfl, T, q⟩ := h
    refine ⟨_, (pss_one (ps_ret (pe_cmpR op_ge (pe_ix (ix_seqK (K := K) rfl) (pv 0) pe_int (fun _ _ => rfl)) (pe_fn C_least_wait hr (by rfl) (pa_cons (pe_ix (ix_seqK (K := K) rfl) (pv 0) pe_int (fun _ _ => rfl)) (pa_cons (pe_ix (ix_seqK (K := K) rfl) (pv 0) pe_int (fun _ _ => rfl)) pa_nil))) (nomark _)))), ?_⟩
    refine ⟨.ref a, rfl, T.ix 2 rfl ?_⟩
    refine ⟨.ref a, rfl, T.ix 0 rfl ?_⟩
    refine ⟨.ref a, rfl, T.ix 1 rfl ?_⟩
    refine ⟨d, l, rfl, ?_⟩
    exact ⟨_, _, rfl, rfl, q⟩
/-! ### last looks -/
def spShowBy : Sp := fun vs H Q _ => ∃ a d l w e, vs = [.ref a, .int e] ∧ Tm H a d l w ∧ Q (vO (showBy d l e)) H
theorem ok_show_by {f : Addr} {fd : FuncData} (F : Fun K "show_by" "show_by" s_show_by f fd) (hm : mg "show_by" = some (.ref f))
    (C_look_by : Cal P w K mg base 1 "look_by" ["times", "moment"] spLookBy) : Cal P w K mg base 2 "show_by" ["times", "end"] spShowBy := by
  refine ⟨f, fd, F.ok sc_show_by (fun vs H Q E h => ?_) (fun cdv A outer s H vs Q E hr h => ?_), hm, F.kp, F.binds fun _ _ _ _ _ _ us hl => match us, hl with | [_, _], _ => rfl⟩
  · obtain ⟨a, d, l, w, e, rfl, _⟩ := h
    rfl
  · obtain ⟨a, d, l, w, e, rfl, T, q⟩ := h
    refine ⟨_, (pss_one (ps_ret (pe_fn C_look_by hr (by rfl) (pa_cons (pv 0) (pa_cons (pe_op op_sub (pv 1) (pe_ix (ix_seqK (K := K) rfl) (pv 0) pe_int (fun _ _ => rfl))) pa_nil))))), ?_⟩
    refine ⟨.ref a, rfl, .int e, rfl, .ref a, rfl, T.ix 0 rfl ?_⟩
    refine ⟨_, _, rfl, rfl, ?_⟩
    exact ⟨a, d, l, w, e - d, rfl, T, q⟩
def spCloseBy : Sp := fun vs H Q _ => ∃ a d l w e, vs = [.ref a, .int e] ∧ Tm H a d l w ∧ Q (vO (closeBy d l e)) H
theorem ok_close_by {f : Addr} {fd : FuncData} (F : Fun K "close_by" "close_by" s_close_by f fd) (hm : mg "close_by" = some (.ref f))
    (C_look_by : Cal P w K mg base 1 "look_by" ["times", "moment"] spLookBy) (C_show_by : Cal P w K mg base 2 "show_by" ["times", "end"] spShowBy) : Cal P w K mg base 3 "close_by" ["times", "end"] spCloseBy := by
  refine ⟨f, fd, F.ok sc_close_by (fun vs H Q E h => ?_) (fun cdv A outer s H vs Q E hr h => ?_), hm, F.kp, F.binds fun _ _ _ _ _ _ us hl => match us, hl with | [_, _], _ => rfl⟩
  · obtain ⟨a, d, l, w, e, rfl, _⟩ := h
    rfl
  · obtain ⟨a, d, l, w, e, rfl, T, q⟩ := h
    refine ⟨_, (pss_cons (ps_set (i := 2) sc_close_by.nd rfl (.inl rfl) (pe_fn C_show_by hr (by rfl) (pa_cons (pv 0) (pa_cons (pv 1) pa_nil))))
      (pss_one (ps_ret (pe_ifExp (pt_cmpR op_isN (pv 2) pe_non (nomark _)) pe_non (pe_fn C_look_by hr (by rfl) (pa_cons (pv 0) (pa_cons (pe_op op_sub (pv 2) (pe_ix (ix_seqK (K := K) rfl) (pv 0) pe_int (fun _ _ => rfl))) pa_nil))))))), ?_⟩
    refine ⟨.ref a, rfl, .int e, rfl, a, d, l, w, e, rfl, T, ?_⟩
    refine ⟨vO (showBy d l e), rfl, rfl, _, rfl, ?_⟩
    unfold closeBy at q
    cases h : showBy d l e with
    | none =>
      rw [h] at q
      exact q
    | some x =>
      rw [h] at q
      refine ⟨.ref a, rfl, .int x, rfl, .ref a, rfl, T.ix 0 rfl ?_⟩
      refine ⟨_, _, rfl, rfl, ?_⟩
      exact ⟨a, d, l, w, x - d, rfl, T, q⟩
def spInTime : Sp := fun vs H Q _ => ∃ a d l w m e, vs = [.ref a, .int m, .int e] ∧ Tm H a d l w ∧ Q (.bl (inTime d l m e)) H
theorem ok_in_time {f : Addr} {fd : FuncData} (F : Fun K "in_time" "in_time" s_in_time f fd) (hm : mg "in_time" = some (.ref f))
    (C_close_by : Cal P w K mg base 3 "close_by" ["times", "end"] spCloseBy) : Cal P w K mg base 4 "in_time" ["times", "moment", "end"] spInTime := by
  refine ⟨f, fd, F.ok sc_in_time (fun vs H Q E h => ?_) (fun cdv A outer s H vs Q E hr h => ?_), hm, F.kp, F.binds fun _ _ _ _ _ _ us hl => match us, hl with | [_, _, _], _ => rfl⟩
  · obtain ⟨a, d, l, w, m, e, rfl, _⟩ := h
    rfl
  · obtain ⟨a, d, l, w, m, e, rfl, T, q⟩ := h
    refine ⟨_, (pss_cons (ps_set (i := 3) sc_in_time.nd rfl (.inl rfl) (pe_fn C_close_by hr (by rfl) (pa_cons (pv 0) (pa_cons (pv 2) pa_nil))))
      (pss_one (ps_ret (pe_and (pe_cmpR op_notN (pv 3) pe_non (nomark _)) (pe_one (pe_cmpR op_le (pv 1) (pv 3) (nomark _))))))), ?_⟩
    refine ⟨.ref a, rfl, .int e, rfl, a, d, l, w, e, rfl, T, ?_⟩
    refine ⟨vO (closeBy d l e), rfl, rfl, _, rfl, ?_⟩
    unfold inTime at q
    cases h : closeBy d l e with
    | none =>
      rw [h] at q
      exact q
    | some x =>
      rw [h] at q
      exact ⟨.int m, rfl, .int x, rfl, _, _, rfl, rfl, q⟩
/-! ### gaps -/
def spLeastIn : Sp := fun vs H Q _ => ∃ a d l w o, vs = [.ref a, .int o] ∧ Tm H a d l w ∧ Q (.int (leastIn d l o)) H
theorem ok_least_in_end {f : Addr} {fd : FuncData} (F : Fun K "least_in_end" "least_in_end" s_least_in_end f fd) (hm : mg "least_in_end" = some (.ref f))
    (C_look_at : Cal P w K mg base 1 "look_at" ["times", "moment"] spLookAt) : Cal P w K mg base 2 "least_in_end" ["times", "out_end"] spLeastIn := by
  refine ⟨f, fd, F.ok sc_least_in_end (fun vs H Q E h => ?_) (fun cdv A outer s H vs Q E hr h => ?_), hm, F.kp, F.binds fun _ _ _ _ _ _ us hl => match us, hl with | [_, _], _ => rfl⟩
  · obtain ⟨a, d, l, w, o, rfl, _⟩ := h
    rfl
  · obtain ⟨a, d, l, w, o, rfl, T, q⟩ := h
    refine ⟨_, (pss_one (ps_ret (pe_op op_add (pe_fn C_look_at hr (by rfl) (pa_cons (pv 0) (pa_cons (pv 1) pa_nil))) (pe_ix (ix_seqK (K := K) rfl) (pv 0) pe_int (fun _ _ => rfl))))), ?_⟩
    refine ⟨.ref a, rfl, .int o, rfl, a, d, l, w, o, rfl, T, ?_⟩
    refine ⟨.ref a, rfl, T.ix 0 rfl ?_⟩
    exact ⟨_, _, rfl, rfl, q⟩
def spEnoughGap : Sp := fun vs H Q _ => ∃ a d l w i o, vs = [.ref a, .int i, .int o] ∧ Tm H a d l w ∧ Q (.bl (decide (leastIn d l o ≤ i))) H
theorem ok_enough_gap {f : Addr} {fd : FuncData} (F : Fun K "enough_gap" "enough_gap" s_enough_gap f fd) (hm : mg "enough_gap" = some (.ref f))
    (C_least_in_end : Cal P w K mg base 2 "least_in_end" ["times", "out_end"] spLeastIn) : Cal P w K mg base 3 "enough_gap" ["times", "in_end", "out_end"] spEnoughGap := by
  refine ⟨f, fd, F.ok sc_enough_gap (fun vs H Q E h => ?_) (fun cdv A outer s H vs Q E hr h => ?_), hm, F.kp, F.binds fun _ _ _ _ _ _ us hl => match us, hl with | [_, _, _], _ => rfl⟩
  · obtain ⟨a, d, l, w, i, o, rfl, _⟩ := h
    rfl
  · obtain ⟨a, d, l, w, i, o, rfl, T, q⟩ := h
    refine ⟨_, (pss_one (ps_ret (pe_cmpR op_ge (pv 1) (pe_fn C_least_in_end hr (by rfl) (pa_cons (pv 0) (pa_cons (pv 2) pa_nil))) (nomark _)))), ?_⟩
    refine ⟨.int i, rfl, .ref a, rfl, .int o, rfl, a, d, l, w, o, rfl, T, ?_⟩
    exact ⟨_, _, rfl, rfl, q⟩
def spGoBy : Sp := fun vs H Q _ => ∃ a d l w i o, vs = [.ref a, .int i, .int o] ∧ Tm H a d l w ∧ Q (vO (goBy d l i o)) H
theorem ok_go_by {f : Addr} {fd : FuncData} (F : Fun K "go_by" "go_by" s_go_by f fd) (hm : mg "go_by" = some (.ref f))
    (C_look_at : Cal P w K mg base 1 "look_at" ["times", "moment"] spLookAt)
    (C_close_by : Cal P w K mg base 3 "close_by" ["times", "end"] spCloseBy) : Cal P w K mg base 4 "go_by" ["times", "in_end", "out_end"] spGoBy := by
  refine ⟨f, fd, F.ok sc_go_by (fun vs H Q E h => ?_) (fun cdv A outer s H vs Q E hr h => ?_), hm, F.kp, F.binds fun _ _ _ _ _ _ us hl => match us, hl with | [_, _, _], _ => rfl⟩
  · obtain ⟨a, d, l, w, i, o, rfl, _⟩ := h
    rfl
  · obtain ⟨a, d, l, w, i, o, rfl, T, q⟩ := h
    refine ⟨_, (pss_cons (ps_set (i := 3) sc_go_by.nd rfl (.inl rfl) (pe_fn C_close_by hr (by rfl) (pa_cons (pv 0) (pa_cons (pv 1) pa_nil))))
      (pss_one (ps_ret (pe_ifExp (PW.pt (pw_and (pt_cmpR op_notN (pv 3) pe_non (nomark _)) (pw_and1 (pt_cmpR op_lt (pv 3) (pe_fn C_look_at hr (by rfl) (pa_cons (pv 0) (pa_cons (pv 2) pa_nil))) (nomark _))))) (pv 3) pe_non)))), ?_⟩
    refine ⟨.ref a, rfl, .int i, rfl, a, d, l, w, i, rfl, T, ?_⟩
    refine ⟨vO (closeBy d l i), rfl, rfl, _, rfl, ?_⟩
    unfold goBy at q
    cases h : closeBy d l i with
    | none =>
      rw [h] at q
      exact q
    | some x =>
      rw [h] at q
      refine ⟨.int x, rfl, .ref a, rfl, .int o, rfl, a, d, l, w, o, rfl, T, ?_⟩
      refine ⟨_, _, rfl, rfl, _, rfl, ite2 (fun e => ?_) (fun e => ?_)⟩
      · have e' : x < lookAt l o := of_decide_eq_true e
        dsimp only at q
        rw [if_pos e'] at q
        exact ⟨_, rfl, q⟩
      · have e' : ¬ x < lookAt l o := fun z => e (decide_eq_true z)
        dsimp only at q
        rw [if_neg e'] at q
        exact q
end
end Clk
namespace Clk
open PySem PySem.Spec PyProof.Rows L2
/-! ### the box of draws -/
def Box (H : Hp) (t : Addr) (n : Nat) : Prop := ∃ a b c : Int, H t = some (.lst [.int a, .int b, .int c]) ∧ 0 ≤ c ∧ c ≤ (n : Int)
theorem Box.same {H H' : Hp} {t : Addr} {n : Nat} (b : Box H t n) (s : Same H H') : Box H' t n := by
  obtain ⟨x, y, z, e, h⟩ := b
  exact ⟨x, y, z, s _ _ e, h⟩
theorem Box.ne {H : Hp} {t p : Addr} {n : Nat} (b : Box H t n) (h : H p = none) : p ≠ t := by
  obtain ⟨x, y, z, e, _⟩ := b
  exact (ne_of_none e h).symm
theorem keep_upd {H : Hp} {t : Addr} {o : HO} : Keep t H (upd H t o) := fun b x n e => by
  rw [upd_ne n]
  exact e
theorem ixL {K : PySem.W.Frag} {H : Hp} {p : Addr} {xs : List V} (e : H p = some (.lst xs)) (j : Nat) {v : V} (h : xs[j]? = some v) {Q : VK} (q : Q v H) : rIx K (.ref p) (.int (j : Int)) H Q :=
  .inl ⟨p, _, _, v, rfl, rfl, SqL.of e, atI_nat h, q⟩
theorem ite_n {c A B : Prop} [Decidable c] (h1 : ¬ c → A) (h2 : c → B) : if (!decide c) = true then A else B := by
  by_cases h : c
  · rw [decide_eq_true h]
    exact iteF (h2 h)
  · rw [decide_eq_false h]
    exact iteT (h1 h)
section
variable {P : Program} {w : World} {K : PySem.W.Frag} {mg : Str → Option Value} {base : Heap}
def spTake : Sp := fun vs H Q _ => ∃ t b n, vs = [.ref t, .int b] ∧ Box H t n ∧ n ≤ 100000 ∧ 0 < b ∧ b ≤ 100000 ∧ ∀ H' r, Keep t H H' → Box H' t (n + 1) → 0 ≤ r → r < b → Q (.int r) H'
theorem fmod_in {i b : Int} (h : 0 < b) : 0 ≤ i.fmod b ∧ i.fmod b < b := by
  obtain ⟨_, h1, h2⟩ := fmod_split i b h
  exact ⟨h1, h2⟩
theorem ok_take {f : Addr} {fd : FuncData} (B : Blt mg) (F : Fun K "_law_take" "_law_take" s_law_take f fd) (hm : mg "_law_take" = some (.ref f)) : Cal P w K mg base 1 "_law_take" ["_law_tin", "_law_below_so"] spTake := by
  refine ⟨f, fd, F.ok sc_law_take (fun vs H Q E h => ?_) (fun cdv A outer s H vs Q E hr h => ?_), hm, F.kp, F.binds fun _ _ _ _ _ _ us hl => match us, hl with | [_, _], _ => rfl⟩
  · obtain ⟨t, b, n, rfl, _⟩ := h
    rfl
  · obtain ⟨t, b, n, rfl, ⟨x, y, z, e, z0, zn⟩, hn, b0, b1, q⟩ := h
    refine ⟨_, (pss_cons (ps_if (pt_cmpR op_gt (pe_ix (ix_seqK (K := K) rfl) (pv 0) pe_int (fun _ _ => rfl)) pe_int (nomark _)) (pss_cons (ps_set (i := 2) sc_law_take.nd rfl (.inl rfl) (pe_op op_modN (pe_callTy call_int1 (by rfl) B.t_int (by decide +kernel) (pa_cons (pe_ix (ix_seqK (K := K) rfl) (pv 0) pe_int (fun _ _ => rfl)) pa_nil)) (pv 1)))
      (pss_cons (ps_asg (pe_op op_fdivN (pe_ix (ix_seqK (K := K) rfl) (pv 0) pe_int (fun _ _ => rfl)) (pv 1)) (pg_sub (pv 0) pe_int set_list))
      (pss_one (ps_ret (pv 2))))) pss_nil)
      (pss_cons (ps_asg (pe_op op_add (pe_ix (ix_seqK (K := K) rfl) (pv 0) pe_int (fun _ _ => rfl)) pe_int) (pg_sub (pv 0) pe_int set_list))
      (pss_cons (ps_set (i := 3) sc_law_take.nd rfl (.inl rfl) (pe_op op_modN (pe_callTy call_int1 (by rfl) B.t_int (by decide +kernel) (pa_cons (pe_op op_mul (pe_op op_add (pe_ix (ix_seqK (K := K) rfl) (pv 0) pe_int (fun _ _ => rfl)) (pe_op op_mul pe_int (pe_ix (ix_seqK (K := K) rfl) (pv 0) pe_int (fun _ _ => rfl)))) (pe_op op_add pe_int (pe_ix (ix_seqK (K := K) rfl) (pv 0) pe_int (fun _ _ => rfl)))) pa_nil)) pe_int))
      (pss_cons (ps_set (i := 4) sc_law_take.nd rfl (.inl rfl) (pe_op op_add (pe_op op_modN (pe_callTy call_int1 (by rfl) B.t_int (by decide +kernel) (pa_cons (pv 3) pa_nil)) pe_int) pe_int))
      (pss_cons (ps_set (i := 5) sc_law_take.nd rfl (.inl rfl) (pe_op op_modN (pe_callTy call_int1 (by rfl) B.t_int (by decide +kernel) (pa_cons (pe_op op_mul (pe_op op_add (pe_op op_add (pv 3) (pe_ix (ix_seqK (K := K) rfl) (pv 0) pe_int (fun _ _ => rfl))) (pe_op op_fdivN (pe_ix (ix_seqK (K := K) rfl) (pv 0) pe_int (fun _ _ => rfl)) pe_int)) (pv 4)) pa_nil)) pe_int))
      (pss_one (ps_ret (pe_op op_modN (pe_callTy call_int1 (by rfl) B.t_int (by decide +kernel) (pa_cons (pe_op op_fdivN (pe_op op_modN (pe_callTy call_int1 (by rfl) B.t_int (by decide +kernel) (pa_cons (pe_op op_add (pe_op op_mul (pv 5) pe_int) (pv 3)) pa_nil)) pe_int) pe_int) pa_nil)) (pv 1))))))))), ?_⟩
    refine ⟨.ref t, rfl, ixL e 0 rfl ?_⟩
    refine ⟨_, _, rfl, rfl, _, rfl, ite2 (fun e0 => ?_) (fun e0 => ?_)⟩
    · -- drawn = int(tin[0]) % below
      refine ⟨.ref t, rfl, ixL e 0 rfl (.inl ⟨x, rfl, ?_⟩)⟩
      refine ⟨.int b, rfl, x, b, rfl, rfl, by omega, ?_⟩
      -- tin[0] = tin[0] // below
      refine ⟨.ref t, rfl, ixL e 0 rfl ?_⟩
      refine ⟨.int b, rfl, x, b, rfl, rfl, ⟨by omega, by omega⟩, ?_⟩
      refine ⟨.ref t, rfl, t, _, 0, 0, rfl, rfl, e, rfl, ?_⟩
      obtain ⟨m0, m1⟩ := fmod_in (i := x) b0
      exact ⟨_, rfl, q _ _ keep_upd ⟨_, y, z, upd_same, z0, by omega⟩ m0 m1⟩
    · -- tin[2] = tin[2] + 1
      refine ⟨.ref t, rfl, ixL e 2 rfl ?_⟩
      refine ⟨_, _, rfl, rfl, ?_⟩
      refine ⟨.ref t, rfl, t, _, 2, 2, rfl, rfl, e, rfl, ?_⟩
      have e2 : (upd H t (.lst [.int x, .int y, .int (z + 1)])) t = some (.lst [.int x, .int y, .int (z + 1)]) := upd_same
      -- once
      refine ⟨.ref t, rfl, ixL e2 1 rfl ?_⟩
      refine ⟨.ref t, rfl, ixL e2 2 rfl ?_⟩
      refine ⟨_, _, rfl, rfl, .inl ⟨by omega, by omega⟩, ?_⟩
      refine ⟨_, _, rfl, rfl, ?_⟩
      refine ⟨.ref t, rfl, ixL e2 2 rfl ?_⟩
      refine ⟨_, _, rfl, rfl, ?_⟩
      refine ⟨_, _, rfl, rfl, .inr ⟨by omega, by omega⟩, ?_⟩
      refine .inl ⟨_, rfl, ?_⟩
      refine ⟨_, _, rfl, rfl, by omega, ?_⟩
      dsimp only
      have a1 := fmod_in (i := (y + 48271 * (z + 1)) * (39373 + (z + 1))) (b := 2147483647) (by omega)
      generalize ((y + 48271 * (z + 1)) * (39373 + (z + 1))).fmod 2147483647 = once at a1
      -- wide
      refine ⟨_, rfl, .inl ⟨once, rfl, ?_⟩⟩
      refine ⟨_, _, rfl, rfl, by omega, ?_⟩
      dsimp only
      have a2 := fmod_in (i := once) (b := 40009) (by omega)
      generalize once.fmod 40009 = wide at a2
      refine ⟨_, _, rfl, rfl, ?_⟩
      -- twice
      refine ⟨_, rfl, ?_⟩
      refine ⟨.ref t, rfl, ixL e2 2 rfl ?_⟩
      refine ⟨_, _, rfl, rfl, ?_⟩
      refine ⟨.ref t, rfl, ixL e2 1 rfl ?_⟩
      refine ⟨_, _, rfl, rfl, ⟨by omega, by omega⟩, ?_⟩
      refine ⟨_, _, rfl, rfl, ?_⟩
      refine ⟨_, rfl, ?_⟩
      refine ⟨_, _, rfl, rfl, .inr ⟨by omega, by omega⟩, ?_⟩
      refine .inl ⟨_, rfl, ?_⟩
      refine ⟨_, _, rfl, rfl, by omega, ?_⟩
      dsimp only
      have a3 := fmod_in (i := (once + (z + 1) + y.fdiv 1000003) * (wide + 7)) (b := 2147483629) (by omega)
      generalize ((once + (z + 1) + y.fdiv 1000003) * (wide + 7)).fmod 2147483629 = twice at a3
      -- return
      refine ⟨_, rfl, ?_⟩
      refine ⟨_, _, rfl, rfl, .inl ⟨by omega, by omega⟩, ?_⟩
      refine ⟨_, rfl, ?_⟩
      refine ⟨_, _, rfl, rfl, ?_⟩
      refine .inl ⟨_, rfl, ?_⟩
      refine ⟨_, _, rfl, rfl, by omega, ?_⟩
      refine ⟨_, _, rfl, rfl, ⟨by omega, by omega⟩, ?_⟩
      refine .inl ⟨_, rfl, ?_⟩
      refine ⟨_, rfl, ?_⟩
      refine ⟨_, _, rfl, rfl, by omega, ?_⟩
      obtain ⟨m0, m1⟩ := fmod_in (i := ((twice * 48271 + once).fmod 2147483587).fdiv 64) b0
      exact q _ _ keep_upd ⟨x, y, z + 1, upd_same, by omega, by omega⟩ m0 m1
def spOf : Sp := fun vs H Q _ => ∃ t g n xs, vs = [.ref t, .ref g] ∧ Box H t n ∧ n ≤ 100000 ∧ H g = some (.lst xs) ∧ g ≠ t ∧ 0 < xs.length ∧ xs.length ≤ 1000 ∧ ∀ H' x, Keep t H H' → Box H' t (n + 1) → x ∈ xs → Q x H'
theorem ok_of {f : Addr} {fd : FuncData} (B : Blt mg) (F : Fun K "_law_of" "_law_of" s_law_of f fd) (hm : mg "_law_of" = some (.ref f))
    (C_law_take : Cal P w K mg base 1 "_law_take" ["_law_tin", "_law_below_so"] spTake) : Cal P w K mg base 2 "_law_of" ["_law_tin", "_law_goods_so"] spOf := by
  refine ⟨f, fd, F.ok sc_law_of (fun vs H Q E h => ?_) (fun cdv A outer s H vs Q E hr h => ?_), hm, F.kp, F.binds fun _ _ _ _ _ _ us hl => match us, hl with | [_, _], _ => rfl⟩
  · obtain ⟨t, g, n, xs, rfl, _⟩ := h
    rfl
  · obtain ⟨t, g, n, xs, rfl, hb, hn, hg, ng, l0, l1, q⟩ := h
    refine ⟨_, (pss_one (ps_ret (pe_ix (ix_seqK (K := K) rfl) (pv 1) (pe_fn C_law_take hr (by rfl) (pa_cons (pv 0) (pa_cons (pe_callB call_len_seq (by rfl) B.len (by decide +kernel) (pa_cons (pv 1) pa_nil)) pa_nil))) (fun _ _ => rfl)))), ?_⟩
    refine ⟨.ref g, rfl, .ref t, rfl, .ref g, rfl, g, xs, rfl, .inl (SqL.of hg), ?_⟩
    refine ⟨t, _, n, rfl, hb, hn, by omega, by omega, fun H' r hk hb' r0 r1 => ?_⟩
    have hr' : r.toNat < xs.length := by omega
    have er : r = ((r.toNat : Nat) : Int) := by omega
    have hx : xs[r.toNat]? = some xs[r.toNat] := List.getElem?_eq_getElem hr'
    rw [er]
    exact ixL (hk _ _ ng hg) r.toNat hx (q H' _ hk hb' (List.getElem_mem hr'))
/-! ### the law's own look, gone to by ones -/
def spAt : Sp := fun vs H Q _ => ∃ l m : Int, vs = [.int l, .int m] ∧ 0 < l ∧ Q (.int (lookAt l m)) H
theorem ok_at {f : Addr} {fd : FuncData} (B : Blt mg) (F : Fun K "_law_at" "_law_at" s_law_at f fd) (hm : mg "_law_at" = some (.ref f)) : Cal P w K mg base 1 "_law_at" ["_law_many_so", "_law_moment_so"] spAt := by
  refine ⟨f, fd, F.ok sc_law_at (fun vs H Q E h => ?_) (fun cdv A outer s H vs Q E hr h => ?_), hm, F.kp, F.binds fun _ _ _ _ _ _ us hl => match us, hl with | [_, _], _ => rfl⟩
  · obtain ⟨l, m, rfl, _⟩ := h
    rfl
  · obtain ⟨l, m, rfl, l0, q⟩ := h
    refine ⟨_, (pss_cons (ps_while PassesOwn.never (pt_cmpR op_ne (pe_op op_modN (pe_callTy call_int1 (by rfl) B.t_int (by decide +kernel) (pa_cons (pv 1) pa_nil)) (pv 0)) pe_int (nomark _)) (pss_one (ps_set (i := 1) sc_law_at.nd rfl (.inl rfl) (pe_op op_add (pv 1) pe_int))))
      (pss_one (ps_ret (pv 1)))), ?_⟩
    refine ⟨fun k σ' H' => ∃ c : Int, σ' = [some (.int l), some (.int c)] ∧ H' = H ∧ lookAt l c = lookAt l m ∧ k = (lookAt l m - c).toNat, ⟨_, m, rfl, rfl, rfl, rfl⟩, ?_⟩
    rintro k σ' H' ⟨c, rfl, rfl, e, rfl⟩
    refine ⟨.int c, rfl, .inl ⟨c, rfl, ?_⟩⟩
    refine ⟨.int l, rfl, c, l, rfl, rfl, by omega, ?_⟩
    refine ⟨rfl, _, rfl, ite_n (fun h => ?_) (fun h => ?_)⟩
    · have h' : c.fmod l ≠ 0 := fun z => h (congrArg V.int z)
      have st := lookAt_step l0 h'
      have le := lookAt_le (c + 1) l0
      refine ⟨fun σ' H1 => σ' = [some (.int l), some (.int (c + 1))] ∧ H1 = H', fun σ' H1 ⟨e1, e2⟩ => ⟨_, ?_, c + 1, e1, e2, st.trans e, rfl⟩, ?_⟩
      · omega
      · exact ⟨.int c, rfl, c, 1, rfl, rfl, rfl, rfl⟩
    · have h' : c.fmod l = 0 := V.int.inj h
      refine ⟨.int c, rfl, ?_⟩
      rw [← lookAt_self l0 h', e]
      exact q
end
end Clk
namespace Clk
open PySem PySem.Spec PyProof.Rows L2
/-! ### a list of whole numbers beside [] -/
theorem dp_ints {K : PySem.W.Frag} {H : Hp} : ∀ ns : List Int, DpAll K H (ns.map V.int) (ns.map PyData.int)
  | [] => .nil
  | n :: r => .cons (.int n) (dp_ints r)
theorem lay_ints : ∀ ns : List Int, PyData.canLayAll0 (ns.map PyData.int) = true
  | [] => rfl
  | n :: r => by
    rw [List.map_cons]
    simp only [PyData.canLayAll0, PyData.canLay0, lay_ints r, Bool.and_self]
theorem depth_ints : ∀ ns : List Int, PyData.depthAll (ns.map PyData.int) = 0
  | [] => rfl
  | n :: r => by
    rw [List.map_cons]
    simp only [PyData.depthAll, PyData.depth, depth_ints r, Nat.max_self]
theorem shaped_ints (ns : List Int) : SeqAt.shaped (.list (ns.map PyData.int)) = true := by
  unfold SeqAt.shaped
  simp only [PyData.canLay0, PyData.depth, lay_ints ns, depth_ints ns]
  rfl
theorem eqv_nil (ns : List Int) : PyData.eqv (.list (ns.map PyData.int)) (.list []) = ns.isEmpty := by
  cases ns with
  | nil => rfl
  | cons n r =>
    rw [List.map_cons]
    simp only [PyData.eqv, PyData.eqvAll, List.isEmpty_cons]
theorem rg_ok {l e : Int} (l0 : 0 < l) (l1 : l ≤ 1000) (e0 : 0 ≤ e) (e1 : e ≤ 100000) : RgC 0 (e + 1) l (turns l e) := by
  have h1 : Builtin.Range.rangeSize 0 (e + 1) l = (turns l e : Nat) := by
    unfold Builtin.Range.rangeSize turns
    rw [if_pos l0, if_pos (by omega)]
    have h2 : 0 ≤ e / l := Int.ediv_nonneg e0 (by omega)
    rw [show e + 1 - 0 - 1 = e by omega]
    omega
  refine ⟨by omega, by omega, ?_, h1⟩
  have h3 : e / l ≤ e := Int.ediv_le_self l e0
  have h4 : 0 ≤ e / l := Int.ediv_nonneg e0 (by omega)
  have h5 : (turns l e : Int) ≤ 100001 := by
    unfold turns
    omega
  unfold Builtin.Range.small
  rw [h1]
  simp only [Builtin.Range.rangeFitsLong, Bool.and_eq_true, Bool.or_eq_true, decide_eq_true_eq, beq_iff_eq, show l > 0 from l0, if_true]
  omega
section
variable {P : Program} {w : World} {K : PySem.W.Frag} {mg : Str → Option Value} {base : Heap}
def spLShow : Sp := fun vs H Q _ => ∃ a d l w e, vs = [.ref a, .int e] ∧ Tm H a d l w ∧ 0 ≤ e ∧ e ≤ 100000 ∧ ∀ H', Same H H' → Q (vO (showBy d l e)) H'
theorem ok_lshow {f : Addr} {fd : FuncData} (B : Blt mg) (F : Fun K "_law_show_by" "_law_show_by" s_law_show_by f fd) (hm : mg "_law_show_by" = some (.ref f)) : Cal P w K mg base 1 "_law_show_by" ["_law_times_so", "_law_end_so"] spLShow := by
  refine ⟨f, fd, F.ok sc_law_show_by (fun vs H Q E h => ?_) (fun cdv A outer s H vs Q E hr h => ?_), hm, F.kp, F.binds fun _ _ _ _ _ _ us hl => match us, hl with | [_, _], _ => rfl⟩
  · obtain ⟨a, d, l, w, e, rfl, _⟩ := h
    rfl
  · obtain ⟨a, d, l, w, e, rfl, T, e0, e1, q⟩ := h
    refine ⟨_, (pss_cons (ps_setLc (i := 2) (own := [("_law_own", 3)]) (g := gName 3) rfl sc_law_show_by.nd rfl rfl (sw_true rfl rfl rfl (by decide +kernel)) (pi_range3 (by rfl) B.range (pa_cons pe_int (pa_cons (pe_op op_add (pv 1) pe_int) (pa_cons (pe_ix (ix_seqK (K := K) rfl) (pv 0) pe_int (fun _ _ => rfl)) pa_nil)))) (blkOk_by (own := [("_law_own", 3)]) (N := N_law_show_by) (sc := defScope s_law_show_by) (by decide +kernel)) (fun _ _ _ _ _ => (pg_name (i := 3) sc_law_show_by.nd rfl (.inl rfl))) (fun _ _ _ _ _ => (pts_one (pt_cmpR op_le (pe_op op_add (pv 3) (pe_ix (ix_seqK (K := K) rfl) (pv 0) pe_int (fun _ _ => rfl))) (pv 1) (nomark _)))) (fun _ _ _ _ _ => (pv 3)))
      (pss_one (ps_ret (pe_ifExp (pt_cmpR (op_neD hr.units) (pv 2) (pe_lst pa_nil) (nomark _)) (pe_ix (ix_seqK (K := K) rfl) (pv 2) (pe_un un_neg pe_int) (fun _ _ => rfl)) pe_non)))), ?_⟩
    refine ⟨.int e, rfl, e, 1, rfl, rfl, .ref a, rfl, T.ix 1 rfl ⟨0, e + 1, l, turns l e, rfl, rg_ok T.l0 T.l1 e0 e1, fun D nD => ?_⟩⟩
    have mem : ∀ i : Nat, i < turns l e → i ≤ 100000 := fun i hi => by
      have h3 : e / l ≤ e := Int.ediv_le_self l e0
      unfold turns at hi
      omega
    refine lc_it walk_rangeC (fun i H' => Same H H' ∧ H' D = some (.lst (((List.range (min i (cnt d l e))).map fun j : Nat => (j : Int) * l).map V.int))) ⟨same_new nD, ?_⟩ (fun _ _ _ _ => trivial) (fun i x H' H'' hi p y => ?_) (fun H' p => ?_)
    · rw [upd_same, Nat.zero_min]
      rfl
    · obtain ⟨sm, hD⟩ := p
      rw [y.1, y.2]
      have T' := T.same sm
      refine ⟨rfl, ?_⟩
      refine ⟨_, rfl, .ref a, rfl, T'.ix 0 rfl ?_⟩
      refine ⟨_, _, rfl, rfl, .int e, rfl, _, _, rfl, rfl, _, rfl, ite2 (fun c => ?_) (fun c => ?_)⟩
      · have c1 : (0 : Int) + (i : Int) * l + d ≤ e := of_decide_eq_true c
        have c2 : i < cnt d l e := (cnt_iff T.l0 i).mp (by omega)
        refine ⟨_, rfl, _, hD, ?_, same_mut sm nD, ?_⟩
        · have := mem i hi
          rw [List.length_map, List.length_map, List.length_range]
          exact small100 (by omega)
        · rw [upd_same, Nat.min_eq_left (show i ≤ cnt d l e by omega), Nat.min_eq_left (show i + 1 ≤ cnt d l e by omega), List.range_succ, List.map_append, List.map_append]
          dsimp only
          rw [Int.zero_add]
          rfl
      · have c1 : ¬ ((i : Int) * l + d ≤ e) := fun z => c (decide_eq_true (by omega))
        have c2 : ¬ i < cnt d l e := fun z => c1 ((cnt_iff T.l0 i).mpr z)
        refine ⟨sm, ?_⟩
        rw [hD, Nat.min_eq_right (show cnt d l e ≤ i by omega), Nat.min_eq_right (show cnt d l e ≤ i + 1 by omega)]
    · obtain ⟨sm, hD⟩ := p
      rw [Nat.min_eq_right (cnt_turns T.l0 (Int.le_of_lt T.d0) e0)] at hD
      -- looks[-1] if looks != [] else None
      refine ⟨.ref D, rfl, Nat.zero_le _, fun p np => ?_⟩
      have sm2 : Same H (upd H' p (.lst [])) := sm.trans (same_new np)
      have hD2 : (upd H' p (.lst [])) D = some (.lst (((List.range (cnt d l e)).map fun j : Nat => (j : Int) * l).map V.int)) := (same_new np) _ _ hD
      refine ⟨_, _, .lst (SqL.of hD2) (dp_ints _), .lst (SqL.of upd_same) .nil, shaped_ints _, by decide, _, rfl, ?_⟩
      rw [eqv_nil]
      have hq := q _ sm2
      rw [cnt_show T.l0] at hq
      cases hc : cnt d l e with
      | zero =>
        rw [hc] at hq
        exact hq
      | succ k =>
        rw [hc, if_neg (by omega)] at hq
        rw [List.range_succ, List.map_append]
        show (if (!(List.isEmpty (List.map (fun j : Nat => (j : Int) * l) (List.range k) ++ [(k : Int) * l]))) = true then _ else _)
        rw [show (!(List.isEmpty (List.map (fun j : Nat => (j : Int) * l) (List.range k) ++ [(k : Int) * l]))) = true by simp]
        refine iteT ?_
        refine ⟨.ref D, rfl, 1, rfl, .inl ⟨D, _, _, _, rfl, rfl, SqL.of hD2, ?_, hq⟩⟩
        rw [hc, List.range_succ, List.map_append, List.map_append]
        exact atI_last _ _
def spLClose : Sp := fun vs H Q _ => ∃ a d l w e, vs = [.ref a, .int e] ∧ Tm H a d l w ∧ 0 ≤ e ∧ e ≤ 100000 ∧ ∀ H', Same H H' → Q (vO (closeBy d l e)) H'
theorem ok_lclose {f : Addr} {fd : FuncData} (F : Fun K "_law_close_by" "_law_close_by" s_law_close_by f fd) (hm : mg "_law_close_by" = some (.ref f))
    (C_law_show_by : Cal P w K mg base 1 "_law_show_by" ["_law_times_so", "_law_end_so"] spLShow) : Cal P w K mg base 2 "_law_close_by" ["_law_times_so", "_law_end_so"] spLClose := by
  refine ⟨f, fd, F.ok sc_law_close_by (fun vs H Q E h => ?_) (fun cdv A outer s H vs Q E hr h => ?_), hm, F.kp, F.binds fun _ _ _ _ _ _ us hl => match us, hl with | [_, _], _ => rfl⟩
  · obtain ⟨a, d, l, w, e, rfl, _⟩ := h
    rfl
  · obtain ⟨a, d, l, w, e, rfl, T, e0, e1, q⟩ := h
    refine ⟨_, (pss_cons (ps_set (i := 2) sc_law_close_by.nd rfl (.inl rfl) (pe_fn C_law_show_by hr (by rfl) (pa_cons (pv 0) (pa_cons (pv 1) pa_nil))))
      (pss_one (ps_ret (pe_ifExp (pt_cmpR op_isN (pv 2) pe_non (nomark _)) pe_non (pe_fn C_law_show_by hr (by rfl) (pa_cons (pv 0) (pa_cons (pv 2) pa_nil))))))), ?_⟩
    refine ⟨.ref a, rfl, .int e, rfl, a, d, l, w, e, rfl, T, e0, e1, fun H1 s1 => ?_⟩
    refine ⟨vO (showBy d l e), rfl, rfl, _, rfl, ?_⟩
    unfold closeBy at q
    cases h : showBy d l e with
    | none =>
      rw [h] at q
      exact q H1 s1
    | some x =>
      rw [h] at q
      have hx := showBy_le T.l0 h
      have hd := T.d0
      refine ⟨.ref a, rfl, .int x, rfl, a, d, l, w, x, rfl, T.same s1, by omega, by omega, fun H2 s2 => ?_⟩
      exact q H2 (s1.trans s2)
theorem ok_lin {f : Addr} {fd : FuncData} (F : Fun K "_law_in_end" "_law_in_end" s_law_in_end f fd) (hm : mg "_law_in_end" = some (.ref f))
    (C_law_at : Cal P w K mg base 1 "_law_at" ["_law_many_so", "_law_moment_so"] spAt) : Cal P w K mg base 2 "_law_in_end" ["_law_times_so", "_law_out_so"] spLeastIn := by
  refine ⟨f, fd, F.ok sc_law_in_end (fun vs H Q E h => ?_) (fun cdv A outer s H vs Q E hr h => ?_), hm, F.kp, F.binds fun _ _ _ _ _ _ us hl => match us, hl with | [_, _], _ => rfl⟩
  · obtain ⟨a, d, l, w, o, rfl, _⟩ := h
    rfl
  · obtain ⟨a, d, l, w, o, rfl, T, q⟩ := h
    refine ⟨_, (pss_one (ps_ret (pe_op op_add (pe_fn C_law_at hr (by rfl) (pa_cons (pe_ix (ix_seqK (K := K) rfl) (pv 0) pe_int (fun _ _ => rfl)) (pa_cons (pv 1) pa_nil))) (pe_ix (ix_seqK (K := K) rfl) (pv 0) pe_int (fun _ _ => rfl))))), ?_⟩
    refine ⟨.ref a, rfl, T.ix 1 rfl ?_⟩
    refine ⟨.int o, rfl, l, o, rfl, T.l0, ?_⟩
    refine ⟨.ref a, rfl, T.ix 0 rfl ?_⟩
    exact ⟨_, _, rfl, rfl, q⟩
def spNeeded : Sp := fun vs H Q _ => ∃ d l : Int, vs = [.int d, .int l] ∧ 0 < d ∧ d ≤ 1000 ∧ 0 < l ∧ l ≤ 1000 ∧ Q (.int (d + l - 1)) H
theorem ok_needed {f : Addr} {fd : FuncData} (B : Blt mg) (F : Fun K "_law_wait_needed" "_law_wait_needed" s_law_wait_needed f fd) (hm : mg "_law_wait_needed" = some (.ref f))
    (C_law_at : Cal P w K mg base 1 "_law_at" ["_law_many_so", "_law_moment_so"] spAt) : Cal P w K mg base 2 "_law_wait_needed" ["_law_delay_so", "_law_look_so"] spNeeded := by
  refine ⟨f, fd, F.ok sc_law_wait_needed (fun vs H Q E h => ?_) (fun cdv A outer s H vs Q E hr h => ?_), hm, F.kp, F.binds fun _ _ _ _ _ _ us hl => match us, hl with | [_, _], _ => rfl⟩
  · obtain ⟨d, l, rfl, _⟩ := h
    rfl
  · obtain ⟨d, l, rfl, d0, d1, l0, l1, q⟩ := h
    refine ⟨_, (pss_cons (ps_set (i := 2) sc_law_wait_needed.nd rfl (.inl rfl) pe_int)
      (pss_cons (ps_for PassesOwn.never rfl (pi_range2 (by rfl) B.range (pa_cons pe_int (pa_cons (pe_op op_add (pv 1) pe_int) pa_nil))) (pg_name (i := 3) sc_law_wait_needed.nd rfl (.inl rfl)) (pss_one (ps_set (i := 2) sc_law_wait_needed.nd rfl (.inl rfl) (pe_callB (call_max2 rfl) (by rfl) B.max (by decide +kernel) (pa_cons (pv 2) (pa_cons (pe_op op_sub (pe_op op_add (pe_fn C_law_at hr (by rfl) (pa_cons (pv 1) (pa_cons (pv 3) pa_nil))) (pv 0)) (pv 3)) pa_nil))))))
      (pss_one (ps_ret (pv 2))))), ?_⟩
    refine ⟨.int l, rfl, l, 1, rfl, rfl, 1, l + 1, rfl, ⟨by omega, by omega, by omega, by omega⟩, ?_⟩
    refine for_range (fun i σ' H' => H' = H ∧ ∃ y, σ' = [some (.int d), some (.int l), some (.int (if i = 0 then 0 else d + l - 1)), y]) ⟨rfl, none, rfl⟩ (fun i σ' H' hi p => ?_) (fun σ' H' p => ?_)
    · obtain ⟨rfl, y, rfl⟩ := p
      refine ⟨_, rfl, .int l, rfl, .int (1 + i), rfl, l, 1 + i, rfl, l0, ?_⟩
      refine ⟨.int d, rfl, _, _, rfl, rfl, .int (1 + i), rfl, _, _, rfl, rfl, _, _, rfl, ?_⟩
      rw [lookAt_first (l := l) (m := 1 + i) (by omega) (by omega)]
      refine ⟨rfl, some (.int (1 + i)), ?_⟩
      have e : (if l + d - (1 + (i : Int)) > (if i = 0 then (0 : Int) else d + l - 1) then l + d - (1 + (i : Int)) else (if i = 0 then (0 : Int) else d + l - 1)) = d + l - 1 := by
        by_cases i0 : i = 0
        · subst i0
          rw [if_pos rfl, if_pos (by omega)]
          omega
        · rw [if_neg i0, if_neg (by omega)]
      show [some (V.int d), some (V.int l), some (V.int (if l + d - (1 + (i : Int)) > (if i = 0 then (0 : Int) else d + l - 1) then l + d - (1 + (i : Int)) else (if i = 0 then (0 : Int) else d + l - 1))), some (V.int (1 + i))] = _
      rw [e, if_neg (show ¬ i + 1 = 0 by omega)]
    · obtain ⟨rfl, y, rfl⟩ := p
      refine ⟨_, rfl, ?_⟩
      rw [if_neg (by omega)]
      exact q
end
end Clk
namespace Clk
open PySem PySem.Spec PyProof.Rows L2
/-! ### routes backward -/
theorem ends_head (d l last : Int) (n : Nat) : ((endsOf d l last n).map V.int)[0]? = some (.int ((endsOf d l last n).headD 0)) := by
  obtain ⟨x, r, e⟩ := endsOf_ne d l last n
  rw [e]
  rfl
/-! ### the greatest -/
def Top (xs : List Int) (m : Int) : Prop := m ∈ xs ∧ ∀ y ∈ xs, y ≤ m
theorem top_one {xs : List Int} {m k : Int} (h1 : Top xs m) (h2 : Top xs k) : m = k := Int.le_antisymm (h2.2 m h1.1) (h1.2 k h2.1)
/-! ### None, or the least of a list of looks -/
theorem all_some : ∀ {os : List (Option Int)}, none ∉ os → ∃ zs : List Int, os = zs.map some
  | [], _ => ⟨[], rfl⟩
  | none :: r, h => absurd List.mem_cons_self h
  | some z :: r, h => by
    obtain ⟨zs, e⟩ := all_some (os := r) fun q => h (List.mem_cons_of_mem _ q)
    exact ⟨z :: zs, by rw [e]; rfl⟩
theorem flat_vO : ∀ os : List (Option Int), (os.map vO).all flatV = true
  | [] => rfl
  | o :: r => by
    rw [List.map_cons, List.all_cons, flat_vO r]
    cases o <;> rfl
theorem in_vO : ∀ os : List (Option Int), inV .non (os.map vO) = decide (none ∈ os)
  | [] => by
    rw [decide_eq_false (by simp)]
    rfl
  | none :: r => by
    rw [decide_eq_true List.mem_cons_self]
    rfl
  | some z :: r => by
    have ih := in_vO r
    unfold inV at ih ⊢
    rw [List.map_cons, List.any_cons, ih]
    show (false || decide (none ∈ r)) = _
    rw [Bool.false_or]
    simp
theorem vO_some (zs : List Int) : (zs.map some).map vO = zs.map V.int := by
  rw [List.map_map]
  rfl
theorem min_read {K : PySem.W.Frag} {H : Hp} {D : Addr} {os : List (Option Int)} {σ : L2.St} {i : Nat} (hi : σ[i]? = some (some (.ref D))) (hD : H D = some (.lst (os.map vO))) (ne : os ≠ []) {Q : VK} (q : ∀ m, least os m → Q (vO m) H) :
    tIf (tTest (tOp (rIn K false) (tC .non) (tVar i))) (tC .non) (tCB (rMin K) (tCons (tVar i) tNil)) σ H Q := by
  refine ⟨_, hi, D, _, rfl, .inl (SqL.of hD), rfl, flat_vO os, _, rfl, ?_⟩
  show (if inV .non (os.map vO) = true then _ else _)
  rw [in_vO]
  refine ite2 (fun c => ?_) (fun c => ?_)
  · have c' : none ∈ os := of_decide_eq_true c
    exact q none (.inl ⟨c', rfl⟩)
  · have c' : none ∉ os := fun z => c (decide_eq_true z)
    obtain ⟨zs, e⟩ := all_some c'
    refine ⟨_, hi, D, zs, rfl, SqL.of (by rw [hD, e, vO_some]), ?_, fun m hm hl => ?_⟩
    · cases zs with
      | nil => exact absurd e ne
      | cons z r => exact Nat.succ_pos _
    · refine q (some m) (.inr ⟨c', m, rfl, ?_, fun y hy => ?_⟩)
      · rw [e]
        exact List.mem_map_of_mem hm
      · rw [e] at hy
        obtain ⟨z, hz, ez⟩ := List.mem_map.mp hy
        cases ez
        exact hl y hz
section
variable {P : Program} {w : World} {K : PySem.W.Frag} {mg : Str → Option Value} {base : Heap}
def spLeastEnds : Sp := fun vs H Q _ => ∃ (a : Addr) (d l w last : Int) (n : Nat), vs = [.ref a, .int ((n : Int) + 1), .int last] ∧ Tm H a d l w ∧ n ≤ 1000 ∧
  ∀ H' p, Same H H' → H p = none → H' p = some (.tup ((endsOf d l last n).map V.int)) → Q (.ref p) H'
theorem ok_least_ends {f : Addr} {fd : FuncData} (B : Blt mg) (F : Fun K "least_ends" "least_ends" s_least_ends f fd) (hm : mg "least_ends" = some (.ref f))
    (C_least_in_end : Cal P w K mg base 2 "least_in_end" ["times", "out_end"] spLeastIn) : Cal P w K mg base 3 "least_ends" ["times", "many", "last"] spLeastEnds := by
  refine ⟨f, fd, F.ok sc_least_ends (fun vs H Q E h => ?_) (fun cdv A outer s H vs Q E hr h => ?_), hm, F.kp, F.binds fun _ _ _ _ _ _ us hl => match us, hl with | [_, _, _], _ => rfl⟩
  · obtain ⟨a, d, l, w, last, n, rfl, _⟩ := h
    rfl
  · obtain ⟨a, d, l, w, last, n, rfl, T, hn, q⟩ := h
    refine ⟨_, (pss_cons (ps_set (i := 3) sc_least_ends.nd rfl (.inl rfl) (pe_lst (pa_cons (pv 2) pa_nil)))
      (pss_cons (ps_for PassesOwn.never rfl (pi_range1 (by rfl) B.range (pa_cons (pe_op op_sub (pv 1) pe_int) pa_nil)) (pg_name (i := 4) sc_least_ends.nd rfl (.inl rfl)) (pss_one (ps_expr (pe_bm PySem.F.plainAttrs_list PySem.F.slot_list_insert PySem.F.type_list_insert mt_insert (pv 3) (pa_cons pe_int (pa_cons (pe_fn C_least_in_end hr (by rfl) (pa_cons (pv 0) (pa_cons (pe_ix (ix_seqK (K := K) rfl) (pv 3) pe_int (fun _ _ => rfl)) pa_nil))) pa_nil))))))
      (pss_one (ps_ret (pe_callTy call_tuple_of (by rfl) B.t_tuple (by decide +kernel) (pa_cons (pv 3) pa_nil)))))), ?_⟩
    -- found = [last]
    refine ⟨.int last, rfl, (by show 1 ≤ sizeLine; decide), fun o no => ?_⟩
    -- for _ in range(many - 1)
    refine ⟨.int ((n : Int) + 1), rfl, (n : Int) + 1, 1, rfl, rfl, (n : Int) + 1 - 1, rfl, by omega, by omega, ?_⟩
    refine for_range (fun i σ' H' => ∃ y, σ' = [some (.ref a), some (.int ((n : Int) + 1)), some (.int last), some (.ref o), y] ∧ Same H H' ∧ H' o = some (.lst ((endsOf d l last i).map V.int))) ⟨none, rfl, same_new no, upd_same⟩ (fun i σ' H' hi p => ?_) (fun σ' H' p => ?_)
    · obtain ⟨y, rfl, sm, ho⟩ := p
      refine ⟨.ref o, rfl, .inl ⟨rfl, _, SqL.of ho⟩, ?_⟩
      refine ⟨.ref a, rfl, .ref o, rfl, ixL ho 0 (ends_head d l last i) ?_⟩
      refine ⟨a, d, l, w, _, rfl, T.same sm, ?_⟩
      refine ⟨o, _, 0, _, rfl, rfl, ho, ?_, by decide, by decide, ?_⟩
      · rw [List.length_map, endsOf_len]
        exact small100 (by omega)
      · refine ⟨_, rfl, same_mut sm no, ?_⟩
        rw [upd_same]
        rfl
    · obtain ⟨y, rfl, sm, ho⟩ := p
      have en : ((n : Int) + 1 - 1).toNat = n := by omega
      rw [en] at ho
      refine ⟨.ref o, rfl, o, _, rfl, .inl ⟨SqL.of ho, fun p np => ?_⟩⟩
      exact q _ p (sm.trans (same_new np)) (sm.free np) upd_same
def spBeginBy : Sp := fun vs H Q _ => ∃ (a p : Addr) (d l w : Int) (ns : List Int), vs = [.ref a, .ref p] ∧ Tm H a d l w ∧ H p = some (.lst (ns.map V.int)) ∧ ns ≠ [] ∧ ns.length ≤ 1000 ∧
  ∀ H' m, Same H H' → least (ns.map (closeBy d l)) m → Q (vO m) H'
theorem ok_begin_by {f : Addr} {fd : FuncData} (B : Blt mg) (F : Fun K "begin_by" "begin_by" s_begin_by f fd) (hm : mg "begin_by" = some (.ref f))
    (C_close_by : Cal P w K mg base 3 "close_by" ["times", "end"] spCloseBy) : Cal P w K mg base 4 "begin_by" ["times", "ends"] spBeginBy := by
  refine ⟨f, fd, F.ok sc_begin_by (fun vs H Q E h => ?_) (fun cdv A outer s H vs Q E hr h => ?_), hm, F.kp, F.binds fun _ _ _ _ _ _ us hl => match us, hl with | [_, _], _ => rfl⟩
  · obtain ⟨a, p, d, l, w, ns, rfl, _⟩ := h
    rfl
  · obtain ⟨a, p, d, l, w, ns, rfl, T, hp, hne, hlen, q⟩ := h
    refine ⟨_, (pss_cons (ps_setLc (i := 2) (own := [("end", 3)]) (g := gName 3) (tt := tYes) rfl sc_begin_by.nd rfl rfl (sw_true rfl rfl rfl (by decide +kernel)) (pi_list (pv 1)) (blkOk_by (own := [("end", 3)]) (N := N_begin_by) (sc := defScope s_begin_by) (by decide +kernel)) (fun _ _ _ _ _ => (pg_name (i := 3) sc_begin_by.nd rfl (.inl rfl))) (fun _ _ _ _ _ => pts_nil) (fun _ _ _ _ _ => (pe_fn C_close_by hr (by rfl) (pa_cons (pv 0) (pa_cons (pv 3) pa_nil)))))
      (pss_one (ps_ret (pe_ifExp (pt_cmpR op_in_seq pe_non (pv 2) (by rfl)) pe_non (pe_callB (cr_min rfl) (by rfl) B.min (by decide +kernel) (pa_cons (pv 2) pa_nil)))))), ?_⟩
    refine ⟨.ref p, rfl, p, rfl, ⟨_, SqL.of hp⟩, fun D nD => ?_⟩
    refine lc_list (xs := ns.map V.int) (fun i H' => Same H H' ∧ H' D = some (.lst (((ns.take i).map (closeBy d l)).map vO))) ⟨same_new nD, upd_same⟩ (fun i H' _ pv => SqL.of (pv.1 _ _ hp)) (fun i x H' hx pv => ?_) (fun H' pv => ?_)
    · obtain ⟨sm, hD⟩ := pv
      rw [List.getElem?_map] at hx
      cases hn : ns[i]? with
      | none =>
        rw [hn] at hx
        cases hx
      | some e =>
        rw [hn] at hx
        cases hx
        refine ⟨rfl, ?_⟩
        refine ⟨.ref a, rfl, .int e, rfl, a, d, l, w, e, rfl, T.same sm, _, hD, ?_, same_mut sm nD, ?_⟩
        · rw [List.length_map, List.length_map, List.length_take]
          exact small100 (by omega)
        · rw [upd_same, List.take_add_one, hn, List.map_append, List.map_append]
          rfl
    · obtain ⟨sm, hD⟩ := pv
      rw [List.length_map, List.take_of_length_le (Nat.le_refl _)] at hD
      refine min_read rfl hD (fun z => hne (List.map_eq_nil_iff.mp z)) fun m hm => q H' m sm hm
def spSettled : Sp := fun vs H Q _ => ∃ (a p : Addr) (d l w m : Int) (ns : List Int), vs = [.ref a, .int m, .ref p] ∧ Tm H a d l w ∧ (H p = some (.tup (ns.map V.int)) ∨ H p = some (.lst (ns.map V.int))) ∧ ns.length ≤ 1000 ∧
  ∀ H' x, Same H H' → Top ((lookAt l m + d + w) :: ns) x → Q (.int (x + 1)) H'
theorem ok_settled_by {f : Addr} {fd : FuncData} (B : Blt mg) (F : Fun K "settled_by" "settled_by" s_settled_by f fd) (hm : mg "settled_by" = some (.ref f))
    (C_look_at : Cal P w K mg base 1 "look_at" ["times", "moment"] spLookAt) : Cal P w K mg base 2 "settled_by" ["times", "moment", "ends"] spSettled := by
  refine ⟨f, fd, F.ok sc_settled_by (fun vs H Q E h => ?_) (fun cdv A outer s H vs Q E hr h => ?_), hm, F.kp, F.binds fun _ _ _ _ _ _ us hl => match us, hl with | [_, _, _], _ => rfl⟩
  · obtain ⟨a, p, d, l, w, m, ns, rfl, _⟩ := h
    rfl
  · obtain ⟨a, p, d, l, w, m, ns, rfl, T, hp, hlen, q⟩ := h
    refine ⟨_, (pss_one (ps_ret (pe_op op_add (pe_callB (cr_max rfl) (by rfl) B.max (by decide +kernel) (pa_cons (pe_lst (pa_cons (pe_op op_add (pe_op op_add (pe_fn C_look_at hr (by rfl) (pa_cons (pv 0) (pa_cons (pv 1) pa_nil))) (pe_ix (ix_seqK (K := K) rfl) (pv 0) pe_int (fun _ _ => rfl))) (pe_ix (ix_seqK (K := K) rfl) (pv 0) pe_int (fun _ _ => rfl))) (StX.pa_star (pv 2) pa_nil))) pa_nil)) pe_int))), ?_⟩
    refine ⟨.ref a, rfl, .int m, rfl, a, d, l, w, m, rfl, T, ?_⟩
    refine ⟨.ref a, rfl, T.ix 0 rfl ?_⟩
    refine ⟨_, _, rfl, rfl, .ref a, rfl, T.ix 2 rfl ?_⟩
    refine ⟨_, _, rfl, rfl, .ref p, rfl, p, ns.map V.int, rfl, hp.imp SqT.of SqL.of, ?_⟩
    refine ⟨?_, fun o no => ?_⟩
    · rw [List.length_cons, List.length_append, List.length_map]
      exact small100' (by
        show ns.length + 0 + 1 ≤ 100000
        omega)
    · refine ⟨o, (lookAt l m + d + w) :: ns, rfl, SqL.of ?_, Nat.succ_pos _, fun x hx hm => ?_⟩
      · rw [upd_same, List.append_nil]
        rfl
      exact ⟨_, _, rfl, rfl, q _ x (same_new no) ⟨hx, hm⟩⟩
end
end Clk
namespace Clk
open PySem PySem.Spec PyProof.Rows L2
/-! ### equal data, of the same kinds at every depth -/
def scalB : V → Bool
  | .non => true
  | .bl _ => true
  | .int _ => true
  | _ => false
def Eqv (H : Hp) : Nat → V → V → Prop
  | 0, g, d => g = d ∧ scalB g = true
  | n + 1, g, d => (g = d ∧ scalB g = true) ∨ ∃ a b xs ys, g = .ref a ∧ d = .ref b ∧ ((H a = some (.lst xs) ∧ H b = some (.lst ys)) ∨ (H a = some (.tup xs) ∧ H b = some (.tup ys))) ∧ xs.length = ys.length ∧ xs.length ≤ 1000 ∧
      ∀ (i : Nat) x y, xs[i]? = some x → ys[i]? = some y → Eqv H n x y
theorem Eqv.same {H H' : Hp} (s : Same H H') : ∀ {n : Nat} {g d : V}, Eqv H n g d → Eqv H' n g d
  | 0, _, _, h => h
  | n + 1, _, _, h => by
    rcases h with h | ⟨a, b, xs, ys, e1, e2, h, hl, hz, hi⟩
    · exact .inl h
    · refine .inr ⟨a, b, xs, ys, e1, e2, ?_, hl, hz, fun i x y p q => Eqv.same s (hi i x y p q)⟩
      rcases h with ⟨p, q⟩ | ⟨p, q⟩
      · exact .inl ⟨s _ _ p, s _ _ q⟩
      · exact .inr ⟨s _ _ p, s _ _ q⟩
theorem Eqv.up {H : Hp} {n : Nat} {g d : V} (h : g = d ∧ scalB g = true) : Eqv H n g d := by
  cases n with
  | zero => exact h
  | succ n => exact .inl h
theorem kit2 {K : PySem.W.Frag} {t c1 c2 : String} {r1 r2 : Bool} (e1 : kitB t c1 = some r1) (e2 : kitB t c2 = some r2) : PySem.W.kitAny K (.type t) [.type c1, .type c2] = some (r1 || r2) := by
  refine kitAny_cons (kit_ty e1) (fun z => ?_) (fun z => ?_)
  · refine kitAny_cons (kit_ty e2) (fun z2 => ?_) (fun z2 => ?_)
    · rw [z, z2]
      exact kitAny_nil
    · rw [z, z2]
      rfl
  · rw [z]
    rfl
theorem ty2 {c1 c2 : String} : PySem.Paired ClsV [.ty c1, .ty c2] [.type c1, .type c2] := .cons (.ty c1) (.cons (.ty c2) .nil)
/-- the suite of an if -/
def innerOf : Stmt → List Stmt
  | .If _ b _ _ => b
  | _ => []
abbrev same_in : List Stmt := innerOf ((defBody s_law_same).getD 0 (.Pass ⟨0, 0, 0, 0⟩))
section
variable {P : Program} {w : World} {K : PySem.W.Frag} {mg : Str → Option Value} {base : Heap}
theorem same_body (B : Blt mg) (f : Addr) (cdv : Value) (A : Around) (outer : List Env) (s : Shared) (H : Hp) (E : XK) {tin : TS}
    (hin : PSs (cxOf CX0 P w K mg base N_law_same "_law_same" (defScope s_law_same) f cdv A outer s H E).nox same_in tin) :
    ∃ t, PSs (cxOf CX0 P w K mg base N_law_same "_law_same" (defScope s_law_same) f cdv A outer s H E).nox (defBody s_law_same) t ∧
      ∀ (Q : VK) (g d : V), ((g = d ∧ scalB g = true) → (∀ H', Same H H' → Q (.bl true) H') → t { nx := fun _ H' => Q .non H', rt := Q } (L2.start N_law_same [g, d]) H) ∧
        ∀ (ty : String), TyX K H d (.type ty) → (ty = "list" ∨ ty = "tuple") → (∀ H1 D, Same H H1 → D.rt = Q → tin D (L2.start N_law_same [g, d]) H1) → (∀ H1, Same H H1 → TyX K H1 d (.type ty)) →
          t { nx := fun _ H' => Q .non H', rt := Q } (L2.start N_law_same [g, d]) H := by
  refine ⟨_, (pss_cons (ps_if (pt_val (pe_callB call_isiT (by rfl) B.isinstance (by decide +kernel) (pa_cons (pv 1) (pa_cons (pe_tup (pa_cons (pe_bltn (v := .ty "list") (by rfl) B.t_list (by decide +kernel) rfl) (pa_cons (pe_bltn (v := .ty "tuple") (by rfl) B.t_tuple (by decide +kernel) rfl) pa_nil))) pa_nil)))) hin pss_nil)
      (pss_cons (ps_if (PW.pt (pw_or (pt_cmpR op_isN (pv 1) pe_non (nomark _)) (pw_or1 (pt_val (pe_callB call_isiT (by rfl) B.isinstance (by decide +kernel) (pa_cons (pv 1) (pa_cons (pe_tup (pa_cons (pe_bltn (v := .ty "bool") (by rfl) B.t_bool (by decide +kernel) rfl) (pa_cons (pe_bltn (v := .ty "str") (by rfl) B.t_str (by decide +kernel) rfl) pa_nil))) pa_nil))))))) (pss_one (ps_ret (pe_and (pe_cmpR op_eq (pv 0) (pv 1) (nomark _)) (pe_and (pe_cmpR op_eq (pe_callB call_isi (by rfl) B.isinstance (by decide +kernel) (pa_cons (pv 0) (pa_cons (pe_bltn (v := .ty "bool") (by rfl) B.t_bool (by decide +kernel) rfl) pa_nil))) (pe_callB call_isi (by rfl) B.isinstance (by decide +kernel) (pa_cons (pv 1) (pa_cons (pe_bltn (v := .ty "bool") (by rfl) B.t_bool (by decide +kernel) rfl) pa_nil))) (nomark _)) (pe_one (pe_cmpR op_eq (pe_cmpR op_isN (pv 0) pe_non (nomark _)) (pe_cmpR op_isN (pv 1) pe_non (nomark _)) (nomark _))))))) pss_nil)
      (pss_one (ps_ret (pe_and (pe_callB call_isi (by rfl) B.isinstance (by decide +kernel) (pa_cons (pv 0) (pa_cons (pe_bltn (v := .ty "int") (by rfl) B.t_int (by decide +kernel) rfl) pa_nil))) (pe_and (pe_not (pe_callB call_isi (by rfl) B.isinstance (by decide +kernel) (pa_cons (pv 0) (pa_cons (pe_bltn (v := .ty "bool") (by rfl) B.t_bool (by decide +kernel) rfl) pa_nil)))) (pe_one (pe_cmpR op_eq (pv 0) (pv 1) (nomark _))))))))), fun Q g d => ⟨fun h q => ?_, fun ty hty h q hk => ?_⟩⟩
  · obtain ⟨rfl, hs⟩ := h
    refine ⟨g, rfl, by decide, fun tp np => ?_⟩
    have s1 : Same H (upd H tp (.tup [.ty "list", .ty "tuple"])) := same_new np
    cases g with
    | non =>
      refine ⟨.non, tp, _, .type "NoneType", _, _, rfl, upd_same, ty2, .base .non, kit2 (r1 := false) (r2 := false) (by decide +kernel) (by decide +kernel), _, rfl, ?_⟩
      refine ⟨.non, rfl, rfl, _, rfl, ?_⟩
      refine ⟨.non, rfl, .non, rfl, rfl, _, rfl, ?_⟩
      refine ⟨.non, rfl, .non, .ty "bool", .type "NoneType", _, false, rfl, .ty _, .base .non, kit_ty (by decide +kernel), ?_⟩
      refine ⟨.non, rfl, .non, .ty "bool", .type "NoneType", _, false, rfl, .ty _, .base .non, kit_ty (by decide +kernel), ?_⟩
      refine ⟨rfl, _, rfl, ?_⟩
      refine ⟨.non, rfl, rfl, .non, rfl, rfl, rfl, ?_⟩
      exact q _ s1
    | bl b =>
      refine ⟨.bl b, tp, _, .type "bool", _, _, rfl, upd_same, ty2, .base (.bl b), kit2 (r1 := false) (r2 := false) (by decide +kernel) (by decide +kernel), _, rfl, ?_⟩
      refine ⟨.bl b, rfl, rfl, _, rfl, ?_⟩
      refine ⟨.bl b, rfl, by decide, fun t2 n2 => ?_⟩
      have s2 := s1.trans (same_new (o := .tup [.ty "bool", .ty "str"]) n2)
      refine ⟨.bl b, t2, _, .type "bool", _, _, rfl, upd_same, ty2, .base (.bl b), kit2 (r1 := true) (r2 := false) (by decide +kernel) (by decide +kernel), _, rfl, ?_⟩
      refine ⟨.bl b, rfl, .bl b, rfl, rfl, _, rfl, ?_⟩
      rw [decide_eq_true rfl]
      refine ⟨.bl b, rfl, .bl b, .ty "bool", .type "bool", _, true, rfl, .ty _, .base (.bl b), kit_ty (by decide +kernel), ?_⟩
      refine ⟨.bl b, rfl, .bl b, .ty "bool", .type "bool", _, true, rfl, .ty _, .base (.bl b), kit_ty (by decide +kernel), ?_⟩
      refine ⟨rfl, _, rfl, ?_⟩
      refine ⟨.bl b, rfl, rfl, .bl b, rfl, rfl, rfl, ?_⟩
      exact q _ s2
    | int i =>
      refine ⟨.int i, tp, _, .type "int", _, _, rfl, upd_same, ty2, .base (.int i), kit2 (r1 := false) (r2 := false) (by decide +kernel) (by decide +kernel), _, rfl, ?_⟩
      refine ⟨.int i, rfl, rfl, _, rfl, ?_⟩
      refine ⟨.int i, rfl, by decide, fun t2 n2 => ?_⟩
      have s2 := s1.trans (same_new (o := .tup [.ty "bool", .ty "str"]) n2)
      refine ⟨.int i, t2, _, .type "int", _, _, rfl, upd_same, ty2, .base (.int i), kit2 (r1 := false) (r2 := false) (by decide +kernel) (by decide +kernel), _, rfl, ?_⟩
      refine ⟨.int i, rfl, .int i, .ty "int", .type "int", _, true, rfl, .ty _, .base (.int i), kit_ty (by decide +kernel), _, rfl, ?_⟩
      refine ⟨.int i, rfl, .int i, .ty "bool", .type "int", _, false, rfl, .ty _, .base (.int i), kit_ty (by decide +kernel), _, rfl, _, rfl, ?_⟩
      refine ⟨.int i, rfl, .int i, rfl, rfl, ?_⟩
      rw [decide_eq_true rfl]
      exact q _ s2
    | _ => cases hs
  · refine ⟨d, rfl, by decide, fun tp np => ?_⟩
    have s1 : Same H (upd H tp (.tup [.ty "list", .ty "tuple"])) := same_new np
    rcases h with rfl | rfl
    · refine ⟨d, tp, _, .type "list", _, _, rfl, upd_same, ty2, hk _ s1, kit2 (r1 := true) (r2 := false) (by decide +kernel) (by decide +kernel), _, rfl, ?_⟩
      exact q _ _ s1 rfl
    · refine ⟨d, tp, _, .type "tuple", _, _, rfl, upd_same, ty2, hk _ s1, kit2 (r1 := false) (r2 := true) (by decide +kernel) (by decide +kernel), _, rfl, ?_⟩
      exact q _ _ s1 rfl
end
end Clk
namespace Clk
open PySem PySem.Spec PyProof.Rows L2
section
variable {P : Program} {w : World} {K : PySem.W.Frag} {mg : Str → Option Value} {base : Heap}
def spSame (n : Nat) : Sp := fun vs H Q _ => ∃ g d, vs = [g, d] ∧ Eqv H n g d ∧ ∀ H', Same H H' → Q (.bl true) H'
theorem walk_zipT {a b : Addr} {xs ys : List V} (hl : xs.length = ys.length) : Walk (RZ.ItzT K a b) xs.length (fun H => SqT K H a xs ∧ SqT K H b ys) (YPair (fun i => xs[i]?) (fun i => ys[i]?)) where
  goes i _ hi g := ⟨xs, ys, _, _, g.1, g.2, List.getElem?_eq_getElem hi, List.getElem?_eq_getElem (hl ▸ hi)⟩
  stops _ g := ⟨xs, ys, g.1, g.2, .inl (Nat.le_refl _)⟩
  yields i H v H' _ g y := by
    obtain ⟨T, u, z, e1, e2, e3, f1, f2⟩ := y
    exact ⟨T, u, z, e1, e2, e3, f1 _ g.1, f2 _ g.2⟩
theorem rep_true (n : Nat) : (List.replicate n true).all id = true := by
  induction n with
  | zero => rfl
  | succ n ih =>
    rw [List.replicate_succ, List.all_cons, ih]
    rfl
theorem rep_more (n : Nat) : (List.replicate n true).map V.bl ++ [V.bl true] = (List.replicate (n + 1) true).map V.bl := by
  rw [List.replicate_succ', List.map_append]
  rfl
theorem ok_same (B : Blt mg) {f : Addr} {fd : FuncData} (F : Fun K "_law_same" "_law_same" s_law_same f fd) (hm : mg "_law_same" = some (.ref f)) : ∀ n : Nat, Cal P w K mg base (n + 1) "_law_same" ["_law_got", "_law_due"] (spSame n)
  | 0 => by
    refine ⟨f, fd, F.ok sc_law_same (fun vs H Q E h => ?_) (fun cdv A outer s H vs Q E hr h => ?_), hm, F.kp, F.binds fun _ _ _ _ _ _ us hl => match us, hl with | [_, _], _ => rfl⟩
    · obtain ⟨g, d, rfl, _⟩ := h
      rfl
    · obtain ⟨g, d, rfl, he, q⟩ := h
      obtain ⟨t, ht, k⟩ := same_body (P := P) (w := w) (K := K) (base := base) B f cdv A outer s H E (tin := tNever) pss_never
      exact ⟨t, ht, (k Q g d).1 he q⟩
  | n + 1 => by
    have C_law_same := ok_same B F hm n
    refine ⟨f, fd, F.ok sc_law_same (fun vs H Q E h => ?_) (fun cdv A outer s H vs Q E hr h => ?_), hm, F.kp, F.binds fun _ _ _ _ _ _ us hl => match us, hl with | [_, _], _ => rfl⟩
    · obtain ⟨g, d, rfl, _⟩ := h
      rfl
    · obtain ⟨g, d, rfl, he, q⟩ := h
      have hin : ∃ tin, PSs (cxOf CX0 P w K mg base N_law_same "_law_same" (defScope s_law_same) f cdv A outer s H E).nox same_in tin ∧
          ∀ H1 D, (∃ a b xs ys, g = .ref a ∧ d = .ref b ∧ ((H1 a = some (.lst xs) ∧ H1 b = some (.lst ys)) ∨ (H1 a = some (.tup xs) ∧ H1 b = some (.tup ys))) ∧ xs.length = ys.length ∧ xs.length ≤ 1000 ∧
            ∀ (i : Nat) x y, xs[i]? = some x → ys[i]? = some y → Eqv H1 n x y) → D.rt = Q → (∀ H2, Same H1 H2 → Q (.bl true) H2) → tin D (L2.start N_law_same [g, d]) H1 := by
        refine ⟨_, (pss_cons (ps_if (PW.pt (pw_or (pt_cmpR op_ne (pe_callB call_isi (by rfl) B.isinstance (by decide +kernel) (pa_cons (pv 0) (pa_cons (pe_bltn (v := .ty "list") (by rfl) B.t_list (by decide +kernel) rfl) pa_nil))) (pe_callB call_isi (by rfl) B.isinstance (by decide +kernel) (pa_cons (pv 1) (pa_cons (pe_bltn (v := .ty "list") (by rfl) B.t_list (by decide +kernel) rfl) pa_nil))) (nomark _)) (pw_or1 (pt_cmpR op_ne (pe_callB call_isi (by rfl) B.isinstance (by decide +kernel) (pa_cons (pv 0) (pa_cons (pe_bltn (v := .ty "tuple") (by rfl) B.t_tuple (by decide +kernel) rfl) pa_nil))) (pe_callB call_isi (by rfl) B.isinstance (by decide +kernel) (pa_cons (pv 1) (pa_cons (pe_bltn (v := .ty "tuple") (by rfl) B.t_tuple (by decide +kernel) rfl) pa_nil))) (nomark _))))) (pss_one (ps_ret pe_bl)) pss_nil)
      (pss_one (ps_ret (pe_and (pe_cmpR op_eq (pe_callB call_len_seq (by rfl) B.len (by decide +kernel) (pa_cons (pv 0) pa_nil)) (pe_callB call_len_seq (by rfl) B.len (by decide +kernel) (pa_cons (pv 1) pa_nil)) (nomark _)) (pe_one (pe_callB (cr_all rfl) (by rfl) B.all (by decide +kernel) (pa_cons (pe_lc (own := [("_law_mine", 2), ("_law_its", 3)]) (tt := tYes) rfl sc_law_same.nd (RZ.pi_zipA (by rfl) B.zip (pa_cons (pv 0) (pa_cons (pv 1) pa_nil))) (blkOk_by (own := [("_law_mine", 2), ("_law_its", 3)]) (N := N_law_same) (sc := defScope s_law_same) (by decide +kernel)) (fun _ _ _ _ _ => (pg_tupK (K := K) (n := 2) rfl rfl (pgs_cons (pg_name (i := 2) sc_law_same.nd rfl (.inl rfl)) (pgs_cons (pg_name (i := 3) sc_law_same.nd rfl (.inl rfl)) pgs_nil)))) (fun _ _ _ _ _ => pts_nil) (fun _ _ _ _ _ => (pe_fn C_law_same hr (by rfl) (pa_cons (pv 2) (pa_cons (pv 3) pa_nil))))) pa_nil))))))), fun H1 D hh hD q => ?_⟩
        obtain ⟨a, b, xs, ys, rfl, rfl, hk, hl, hz, hi⟩ := hh
        subst hD
        rcases hk with ⟨ha, hb⟩ | ⟨ha, hb⟩
        · refine ⟨.ref a, rfl, .ref a, .ty "list", .type "list", _, true, rfl, .ty _, .base (.lst ha), kit_ty (by decide +kernel), ?_⟩
          refine ⟨.ref b, rfl, .ref b, .ty "list", .type "list", _, true, rfl, .ty _, .base (.lst hb), kit_ty (by decide +kernel), ?_⟩
          refine ⟨rfl, _, rfl, ?_⟩
          refine ⟨.ref a, rfl, .ref a, .ty "tuple", .type "list", _, false, rfl, .ty _, .base (.lst ha), kit_ty (by decide +kernel), ?_⟩
          refine ⟨.ref b, rfl, .ref b, .ty "tuple", .type "list", _, false, rfl, .ty _, .base (.lst hb), kit_ty (by decide +kernel), ?_⟩
          refine ⟨rfl, _, rfl, ?_⟩
          refine ⟨.ref a, rfl, a, xs, rfl, .inl (SqL.of ha), .ref b, rfl, b, ys, rfl, .inl (SqL.of hb), rfl, _, rfl, ?_⟩
          rw [hl, decide_eq_true rfl]
          refine ⟨.ref a, rfl, .ref b, rfl, a, b, xs, ys, rfl, .inl ⟨SqL.of ha, SqL.of hb, fun Dl nD => ?_⟩⟩
          refine lc_it (walk_zip (K := K) (a := a) (b := b) (xs := xs) (ys := ys) (n := xs.length) (by omega)) (fun k H' => Same H1 H' ∧ H' Dl = some (.lst ((List.replicate k true).map V.bl))) ⟨same_new nD, upd_same⟩ (fun _ _ _ p => ⟨SqL.of (p.1 _ _ ha), SqL.of (p.1 _ _ hb)⟩) (fun k x H' H'' hk p y => ?_) (fun H' p => ?_)
          · obtain ⟨sm, hDl⟩ := p
            obtain ⟨T, u, v, rfl, nT, rfl, eu, ev⟩ := y
            have s3 := sm.trans (same_new (o := .tup [u, v]) nT)
            refine ⟨T, [u, v], rfl, SqT.of upd_same, rfl, u, [v], rfl, v, [], rfl, rfl, rfl, ?_⟩
            refine ⟨u, rfl, v, rfl, u, v, rfl, Eqv.same s3 (hi k u v eu ev), fun H3 s4 => ?_⟩
            have hD3 := s4 _ _ ((same_new (o := .tup [u, v]) nT) _ _ hDl)
            refine ⟨_, hD3, ?_, same_mut (s3.trans s4) nD, ?_⟩
            · rw [List.length_map, List.length_replicate]
              exact small100 (by omega)
            · rw [upd_same, rep_more]
          · exact ⟨Dl, _, rfl, SqL.of p.2, by rw [rep_true]; exact q _ p.1⟩
        · refine ⟨.ref a, rfl, .ref a, .ty "list", .type "tuple", _, false, rfl, .ty _, .base (.tup ha), kit_ty (by decide +kernel), ?_⟩
          refine ⟨.ref b, rfl, .ref b, .ty "list", .type "tuple", _, false, rfl, .ty _, .base (.tup hb), kit_ty (by decide +kernel), ?_⟩
          refine ⟨rfl, _, rfl, ?_⟩
          refine ⟨.ref a, rfl, .ref a, .ty "tuple", .type "tuple", _, true, rfl, .ty _, .base (.tup ha), kit_ty (by decide +kernel), ?_⟩
          refine ⟨.ref b, rfl, .ref b, .ty "tuple", .type "tuple", _, true, rfl, .ty _, .base (.tup hb), kit_ty (by decide +kernel), ?_⟩
          refine ⟨rfl, _, rfl, ?_⟩
          refine ⟨.ref a, rfl, a, xs, rfl, .inr (SqT.of ha), .ref b, rfl, b, ys, rfl, .inr (SqT.of hb), rfl, _, rfl, ?_⟩
          rw [hl, decide_eq_true rfl]
          refine ⟨.ref a, rfl, .ref b, rfl, a, b, xs, ys, rfl, .inr ⟨SqT.of ha, SqT.of hb, fun Dl nD => ?_⟩⟩
          refine lc_it (walk_zipT (K := K) (a := a) (b := b) hl) (fun k H' => Same H1 H' ∧ H' Dl = some (.lst ((List.replicate k true).map V.bl))) ⟨same_new nD, upd_same⟩ (fun _ _ _ p => ⟨SqT.of (p.1 _ _ ha), SqT.of (p.1 _ _ hb)⟩) (fun k x H' H'' hk p y => ?_) (fun H' p => ?_)
          · obtain ⟨sm, hDl⟩ := p
            obtain ⟨T, u, v, rfl, nT, rfl, eu, ev⟩ := y
            have s3 := sm.trans (same_new (o := .tup [u, v]) nT)
            refine ⟨T, [u, v], rfl, SqT.of upd_same, rfl, u, [v], rfl, v, [], rfl, rfl, rfl, ?_⟩
            refine ⟨u, rfl, v, rfl, u, v, rfl, Eqv.same s3 (hi k u v eu ev), fun H3 s4 => ?_⟩
            have hD3 := s4 _ _ ((same_new (o := .tup [u, v]) nT) _ _ hDl)
            refine ⟨_, hD3, ?_, same_mut (s3.trans s4) nD, ?_⟩
            · rw [List.length_map, List.length_replicate]
              exact small100 (by omega)
            · rw [upd_same, rep_more]
          · exact ⟨Dl, _, rfl, SqL.of p.2, by rw [rep_true]; exact q _ p.1⟩
      obtain ⟨tin, htin, ktin⟩ := hin
      obtain ⟨t, ht, k⟩ := same_body (P := P) (w := w) (K := K) (base := base) B f cdv A outer s H E htin
      refine ⟨t, ht, ?_⟩
      rcases he with he | ⟨a, b, xs, ys, e1, e2, hk, hl, hz, hi⟩
      · exact (k Q g d).1 he q
      · have go : ∀ H1 D, Same H H1 → D.rt = Q → tin D (L2.start N_law_same [g, d]) H1 := fun H1 D s1 hD =>
          ktin H1 D ⟨a, b, xs, ys, e1, e2, hk.imp (fun z => ⟨s1 _ _ z.1, s1 _ _ z.2⟩) (fun z => ⟨s1 _ _ z.1, s1 _ _ z.2⟩), hl, hz, fun i x y p r => Eqv.same s1 (hi i x y p r)⟩ hD fun H2 s2 => q H2 (s1.trans s2)
        rcases hk with ⟨ha, hb⟩ | ⟨ha, hb⟩
        · exact (k Q g d).2 "list" (by rw [e2]; exact .base (.lst hb)) (.inl rfl) go fun H1 s1 => by rw [e2]; exact .base (.lst (s1 _ _ hb))
        · exact (k Q g d).2 "tuple" (by rw [e2]; exact .base (.tup hb)) (.inr rfl) go fun H1 s1 => by rw [e2]; exact .base (.tup (s1 _ _ hb))
end
end Clk
namespace Clk
open PySem PySem.Spec PyProof.Rows L2
/-! ### cells and box -/
theorem cut_ints (ns : List Int) (lo hi : Option Int) : ∃ ms : List Int, cutV (ns.map V.int) lo hi = ms.map V.int ∧ ms.length ≤ ns.length := by
  unfold cutV
  refine ⟨(ns.drop (HT.sIx (ns.map V.int).length 0 lo)).take (HT.sIx (ns.map V.int).length (ns.map V.int).length hi - HT.sIx (ns.map V.int).length 0 lo), ?_, ?_⟩
  · rw [List.map_take, List.map_drop]
  · rw [List.length_take, List.length_drop]
    omega
theorem cut_one (xs : List V) : cutV xs none (some 1) = xs.take 1 := by
  unfold cutV
  rw [HT.sIx_none, show HT.sIx xs.length xs.length (some 1) = min 1 xs.length from HT.sIx_nat xs.length xs.length 1, List.drop_zero, Nat.sub_zero]
  cases xs with
  | nil => rfl
  | cons x r =>
    rw [List.length_cons, Nat.min_eq_left (by omega)]
section
variable {P : Program} {w : World} {K : PySem.W.Frag} {mg : Str → Option Value} {base : Heap}
def spCells (K : PySem.W.Frag) : Sp := fun vs H Q _ => ∃ (a : Addr) (ns : List Int), vs = [.ref a, .int 1] ∧ SqL K H a (ns.map V.int) ∧ ns.length ≤ 63 ∧ ∀ H' c z, Same H H' → H' c = some (.lst [.int z]) → Q (.ref c) H'
theorem ok_cells (B : Blt mg) {f : Addr} {fd : FuncData} (F : Fun K "_law_cells" "_law_cells" s_law_cells f fd) (hm : mg "_law_cells" = some (.ref f)) : Cal P w K mg base 1 "_law_cells" ["_law_script", "_law_most_so"] (spCells K) := by
  refine ⟨f, fd, F.ok sc_law_cells (fun vs H Q E h => ?_) (fun cdv A outer s H vs Q E hr h => ?_), hm, F.kp, F.binds fun _ _ _ _ _ _ us hl => match us, hl with | [_, _], _ => rfl⟩
  · obtain ⟨a, ns, rfl, _⟩ := h
    rfl
  · obtain ⟨a, ns, rfl, hS, hlen, q⟩ := h
    refine ⟨_, (Evl.pss_cut (ps_set (i := 2) sc_law_cells.nd rfl (.inl rfl) (pe_orT (pe_callTy call_list_of (by rfl) B.t_list (by decide +kernel) (pa_cons (pe_slice sl_list (pv 0) po_none (po_some (pv 1))) pa_nil)) (pe_one (pe_lst (pa_cons pe_int pa_nil)))))
      (pss_cons (ps_for PassesOwn.never rfl (pi_enum (by rfl) B.enumerate (pa_cons (pe_slice sl_list (pv 0) (po_some (pv 1)) (po_some pe_int)) pa_nil)) (pg_tupK (K := K) (n := 2) rfl rfl (pgs_cons (pg_name (i := 3) sc_law_cells.nd rfl (.inl rfl)) (pgs_cons (pg_name (i := 4) sc_law_cells.nd rfl (.inl rfl)) pgs_nil))) (pss_cons (ps_set (i := 5) sc_law_cells.nd rfl (.inl rfl) (pe_op op_modN (pe_callTy call_int1 (by rfl) B.t_int (by decide +kernel) (pa_cons (pv 3) pa_nil)) (pv 1)))
      (pss_one (ps_asg (pe_op op_add (pe_ix (ix_seqK (K := K) rfl) (pv 2) (pv 5) (fun _ _ => rfl)) (pe_op op_mul (pv 4) (pe_op op_add (pv 3) pe_int))) (pg_sub (pv 2) (pv 5) set_list)))))
      (pss_one (ps_ret (pv 2))))), ?_⟩
    -- cells = list(script[:most]) or [0]
    refine ⟨fun σ' H' => ∃ c z, σ' = [some (.ref a), some (.int 1), some (.ref c), none, none, none] ∧ Same H H' ∧ H c = none ∧ H' c = some (.lst [.int z]), ?_, fun σ' H' hm' => ?_⟩
    · refine ⟨.ref a, rfl, .int 1, rfl, 1, rfl, a, _, rfl, hS, fun p np => ?_⟩
      have s1 : Same H (upd H p (.lst (cutV (ns.map V.int) none (some 1)))) := same_new np
      refine ⟨p, _, rfl, .inl (SqL.of upd_same), fun l nl => ?_⟩
      have s2 := s1.trans (same_new (o := .lst (cutV (ns.map V.int) none (some 1))) nl)
      have nl' := s1.free nl
      rw [cut_one] at s2 ⊢
      cases ns with
      | nil =>
        refine ⟨false, .inl ⟨_, SqL.of upd_same, rfl⟩, ?_⟩
        refine ⟨by decide, fun c nc => ?_⟩
        exact ⟨c, 0, rfl, s2.trans (same_new nc), s2.free nc, upd_same⟩
      | cons x r =>
        refine ⟨true, .inl ⟨_, SqL.of upd_same, rfl⟩, ?_⟩
        exact ⟨l, x, rfl, s2, nl', upd_same⟩
    · obtain ⟨c, z, rfl, sm, nc, hc⟩ := hm'
      obtain ⟨ms, em, lm⟩ := cut_ints ns (some 1) (some 63)
      refine ⟨.ref a, rfl, .int 1, rfl, 1, rfl, 63, rfl, a, _, rfl, sm.seq hS, fun p np => ?_⟩
      have hcp : c ≠ p := ne_of_none hc np
      refine ⟨p, _, rfl, SqL.of upd_same, ?_⟩
      have s3 : Same H (upd H' p (.lst (cutV (ns.map V.int) (some 1) (some 63)))) := sm.trans (same_new np)
      have hc3 : (upd H' p (.lst (cutV (ns.map V.int) (some 1) (some 63)))) c = some (.lst [.int z]) := by
        rw [upd_ne hcp]
        exact hc
      rw [em] at s3 hc3 ⊢
      refine for_it (walk_enum (K := K) (a := p) (xs := ms.map V.int)) (fun i σ1 H1 => ∃ y3 y4 y5 z, σ1 = [some (.ref a), some (.int 1), some (.ref c), y3, y4, y5] ∧ Same H H1 ∧ H1 c = some (.lst [.int z]) ∧ H1 p = some (.lst (ms.map V.int)))
        ⟨none, none, none, z, rfl, s3, hc3, upd_same⟩ (fun i σ1 H1 _ pv => ?_) (fun i x σ1 H1 H2 hi pv y => ?_) (fun σ1 H1 pv => ?_)
      · obtain ⟨_, _, _, _, rfl, _, _, hp⟩ := pv
        exact SqL.of hp
      · obtain ⟨y3, y4, y5, z1, rfl, s4, hc4, hp⟩ := pv
        obtain ⟨T, k, x, rfl, nT, rfl, ek, ex⟩ := y
        rw [List.length_map] at hi
        dsimp only at ek ex
        rw [List.getElem?_map, List.getElem?_eq_getElem hi] at ex
        cases ex
        cases ek
        have sT : Same H1 (upd H1 T (.tup [.int (i : Nat), .int ms[i]])) := same_new nT
        have hc5 := sT _ _ hc4
        have hp5 := sT _ _ hp
        refine ⟨T, _, rfl, SqT.of upd_same, rfl, _, _, rfl, _, _, rfl, rfl, ?_⟩
        refine ⟨_, rfl, .inl ⟨_, rfl, ?_⟩⟩
        refine ⟨_, rfl, _, _, rfl, rfl, by omega, ?_⟩
        have e0 : ((i : Nat) : Int).fmod 1 = 0 := by
          have := fmod_in (i := ((i : Nat) : Int)) (b := 1) (by omega)
          omega
        dsimp only
        rw [e0]
        refine ⟨.ref c, rfl, .int 0, rfl, ixL hc5 0 rfl ?_⟩
        refine ⟨_, rfl, _, rfl, _, _, rfl, rfl, ?_⟩
        refine ⟨_, _, rfl, rfl, .inr ⟨by omega, by omega⟩, ?_⟩
        refine ⟨_, _, rfl, rfl, ?_⟩
        refine ⟨.ref c, rfl, .int 0, rfl, c, _, 0, 0, rfl, rfl, hc5, rfl, ?_⟩
        refine ⟨_, _, _, _, rfl, same_mut (s4.trans sT) nc, upd_same, ?_⟩
        rw [upd_ne hcp.symm]
        exact hp5
      · obtain ⟨y3, y4, y5, z1, rfl, s4, hc4, hp⟩ := pv
        exact ⟨.ref c, rfl, q _ c z1 s4 hc4⟩
def spBox : Sp := fun vs H Q _ => ∃ (c : Addr) (z : Int), vs = [.ref c, .int 0] ∧ H c = some (.lst [.int z]) ∧ ∀ H' t, Same H H' → Box H' t 0 → Q (.ref t) H'
theorem ok_box (B : Blt mg) {f : Addr} {fd : FuncData} (F : Fun K "_law_box" "_law_box" s_law_box f fd) (hm : mg "_law_box" = some (.ref f)) : Cal P w K mg base 1 "_law_box" ["_law_script", "_law_k"] spBox := by
  refine ⟨f, fd, F.ok sc_law_box (fun vs H Q E h => ?_) (fun cdv A outer s H vs Q E hr h => ?_), hm, F.kp, F.binds fun _ _ _ _ _ _ us hl => match us, hl with | [_, _], _ => rfl⟩
  · obtain ⟨c, z, rfl, _⟩ := h
    rfl
  · obtain ⟨c, z, rfl, hc, q⟩ := h
    refine ⟨_, (pss_cons (ps_set (i := 2) sc_law_box.nd rfl (.inl rfl) (pe_ifExp (pt_cmpR op_lt (pv 1) (pe_callB call_len_seq (by rfl) B.len (by decide +kernel) (pa_cons (pv 0) pa_nil)) (nomark _)) (pe_ix (ix_seqK (K := K) rfl) (pv 0) (pv 1) (fun _ _ => rfl)) pe_int))
      (pss_one (ps_ret (pe_lst (pa_cons (pe_op op_mul (pe_callB call_abs (by rfl) B.abs (by decide +kernel) (pa_cons (pv 2) pa_nil)) (pe_callTy call_int1 (by rfl) B.t_int (by decide +kernel) (pa_cons (pe_cmpR op_ge (pe_callB call_abs (by rfl) B.abs (by decide +kernel) (pa_cons (pv 2) pa_nil)) (pe_op op_pow pe_int pe_int) (nomark _)) pa_nil))) (pa_cons (pe_op op_add (pe_op op_add (pe_op op_modN (pe_callTy call_int1 (by rfl) B.t_int (by decide +kernel) (pa_cons (pv 2) pa_nil)) pe_int) (pe_op op_mul pe_int (pv 1))) pe_int) (pa_cons pe_int pa_nil))))))), ?_⟩
    refine ⟨.int 0, rfl, .ref c, rfl, c, _, rfl, .inl (SqL.of hc), 0, 1, rfl, rfl, _, rfl, ite2 (fun _ => ?_) (fun h => absurd (decide_eq_true (show (0 : Int) < 1 by omega)) h)⟩
    refine ⟨.ref c, rfl, .int 0, rfl, ixL hc 0 rfl ?_⟩
    -- the list
    refine ⟨.int z, rfl, z, rfl, ?_⟩
    refine ⟨.int z, rfl, z, rfl, ?_⟩
    refine ⟨10, 18, rfl, rfl, ⟨by decide, by decide, by decide⟩, ?_⟩
    refine ⟨_, _, rfl, rfl, .inr ⟨_, rfl, ?_⟩⟩
    refine ⟨_, _, rfl, rfl, .inr ?_, ?_⟩
    · constructor
      · split <;> omega
      · split <;> omega
    refine ⟨.int z, rfl, .inl ⟨z, rfl, ?_⟩⟩
    refine ⟨_, _, rfl, rfl, by omega, ?_⟩
    refine ⟨.int 0, rfl, _, _, rfl, rfl, .inr ⟨by decide, by decide⟩, ?_⟩
    refine ⟨_, _, rfl, rfl, ?_⟩
    refine ⟨_, _, rfl, rfl, ?_⟩
    refine ⟨by show 3 ≤ sizeLine; decide, fun t nt => ?_⟩
    exact q _ t (same_new nt) ⟨_, _, _, upd_same, Int.le_refl _, Int.le_refl _⟩
end
end Clk
namespace Clk
open PySem PySem.Spec PyProof.Rows L2
theorem eqv_idx {H : Hp} {n : Nat} : ∀ {xs ys : List V}, PySem.Paired (Eqv H n) xs ys → ∀ (i : Nat) x y, xs[i]? = some x → ys[i]? = some y → Eqv H n x y
  | _, _, .nil, i, x, y, h, _ => by simp at h
  | _, _, .cons r t, 0, x, y, h1, h2 => by
    have e1 := Option.some.inj h1
    have e2 := Option.some.inj h2
    rw [← e1, ← e2]
    exact r
  | _, _, .cons r t, i + 1, x, y, h1, h2 => eqv_idx t i x y h1 h2
theorem eqv_lst {H : Hp} {n : Nat} {a b : Addr} {xs ys : List V} (ha : H a = some (.lst xs)) (hb : H b = some (.lst ys)) (h : PySem.Paired (Eqv H n) xs ys) (hz : xs.length ≤ 1000) : Eqv H (n + 1) (.ref a) (.ref b) :=
  .inr ⟨a, b, xs, ys, rfl, rfl, .inl ⟨ha, hb⟩, Paired.length h, hz, eqv_idx h⟩
theorem eqv_tup {H : Hp} {n : Nat} {a b : Addr} {xs ys : List V} (ha : H a = some (.tup xs)) (hb : H b = some (.tup ys)) (h : PySem.Paired (Eqv H n) xs ys) (hz : xs.length ≤ 1000) : Eqv H (n + 1) (.ref a) (.ref b) :=
  .inr ⟨a, b, xs, ys, rfl, rfl, .inr ⟨ha, hb⟩, Paired.length h, hz, eqv_idx h⟩
theorem eqv_refl {H : Hp} {n : Nat} : ∀ {xs : List V}, xs.all scalB = true → PySem.Paired (Eqv H n) xs xs
  | [], _ => .nil
  | x :: r, h => by
    rw [List.all_cons, Bool.and_eq_true] at h
    exact .cons (Eqv.up ⟨rfl, h.1⟩) (eqv_refl h.2)
section
variable {P : Program} {w : World} {K : PySem.W.Frag} {mg : Str → Option Value} {base : Heap}
def spHand : Sp := fun vs H Q _ => vs = [] ∧ ∀ H', Same H H' → Q (.bl true) H'
theorem ok_hand {f : Addr} {fd : FuncData} (F : Fun K "_law_by_hand_right" "_law_by_hand_right" s_law_by_hand_right f fd) (hm : mg "_law_by_hand_right" = some (.ref f))
    (C_least_wait : Cal P w K mg base 1 "least_wait" ["delay", "look"] spLeastWait) (C_show_by : Cal P w K mg base 2 "show_by" ["times", "end"] spShowBy) (C_close_by : Cal P w K mg base 3 "close_by" ["times", "end"] spCloseBy)
    (C_least_in_end : Cal P w K mg base 2 "least_in_end" ["times", "out_end"] spLeastIn) (C_go_by : Cal P w K mg base 4 "go_by" ["times", "in_end", "out_end"] spGoBy)
    (C_least_ends : Cal P w K mg base 3 "least_ends" ["times", "many", "last"] spLeastEnds) (C_settled_by : Cal P w K mg base 2 "settled_by" ["times", "moment", "ends"] spSettled)
    (C_in_time : Cal P w K mg base 4 "in_time" ["times", "moment", "end"] spInTime) (C_law_same : Cal P w K mg base 3 "_law_same" ["_law_got", "_law_due"] (spSame 2)) :
    Cal P w K mg base 5 "_law_by_hand_right" [] spHand := by
  refine ⟨f, fd, F.ok sc_law_by_hand_right (fun vs H Q E h => ?_) (fun cdv A outer s H vs Q E hr h => ?_), hm, F.kp, F.binds fun _ _ _ _ _ _ us hl => match us, hl with | [], _ => rfl⟩
  · obtain ⟨rfl, _⟩ := h
    rfl
  · obtain ⟨rfl, q⟩ := h
    refine ⟨_, (pss_cons (ps_set (i := 0) sc_law_by_hand_right.nd rfl (.inl rfl) (pe_tup (pa_cons pe_int (pa_cons pe_int (pa_cons pe_int pa_nil)))))
      (pss_cons (ps_set (i := 1) sc_law_by_hand_right.nd rfl (.inl rfl) (pe_lst (pa_cons (pe_fn C_least_wait hr (by rfl) (pa_cons pe_int (pa_cons pe_int pa_nil))) (pa_cons (pe_fn C_show_by hr (by rfl) (pa_cons (pv 0) (pa_cons pe_int pa_nil))) (pa_cons (pe_fn C_close_by hr (by rfl) (pa_cons (pv 0) (pa_cons pe_int pa_nil))) (pa_cons (pe_fn C_least_in_end hr (by rfl) (pa_cons (pv 0) (pa_cons pe_int pa_nil))) (pa_cons (pe_fn C_go_by hr (by rfl) (pa_cons (pv 0) (pa_cons pe_int (pa_cons pe_int pa_nil)))) pa_nil)))))))
      (pss_cons (ps_set (i := 1) sc_law_by_hand_right.nd rfl (.inl rfl) (pe_op op_cat (pv 1) (pe_lst (pa_cons (pe_fn C_least_ends hr (by rfl) (pa_cons (pv 0) (pa_cons pe_int (pa_cons pe_int pa_nil)))) (pa_cons (pe_fn C_settled_by hr (by rfl) (pa_cons (pv 0) (pa_cons pe_int (pa_cons (pe_tup pa_nil) pa_nil)))) (pa_cons (pe_fn C_close_by hr (by rfl) (pa_cons (pv 0) (pa_cons pe_int pa_nil))) (pa_cons (pe_fn C_in_time hr (by rfl) (pa_cons (pv 0) (pa_cons pe_int (pa_cons pe_int pa_nil)))) pa_nil)))))))
      (pss_one (ps_ret (pe_fn C_law_same hr (by rfl) (pa_cons (pv 1) (pa_cons (pe_lst (pa_cons pe_int (pa_cons pe_int (pa_cons pe_int (pa_cons pe_int (pa_cons pe_int (pa_cons (pe_tup (pa_cons pe_int (pa_cons pe_int (pa_cons pe_int pa_nil)))) (pa_cons pe_int (pa_cons pe_non (pa_cons pe_bl pa_nil)))))))))) pa_nil)))))))), ?_⟩
    -- times = (4, 3, 6)
    refine ⟨by show 3 ≤ sizeLine; decide, fun a na => ?_⟩
    have s1 : Same H (upd H a (.tup [.int 4, .int 3, .int 6])) := same_new na
    have T1 : Tm (upd H a (.tup [.int 4, .int 3, .int 6])) a 4 3 6 := ⟨.inl upd_same, by decide, by decide, by decide, by decide⟩
    generalize upd H a (.tup [.int 4, .int 3, .int 6]) = H1 at s1 T1
    -- got
    refine ⟨4, 3, rfl, ?_⟩
    refine ⟨.ref a, rfl, a, 4, 3, 6, 20, rfl, T1, ?_⟩
    refine ⟨.ref a, rfl, a, 4, 3, 6, 20, rfl, T1, ?_⟩
    refine ⟨.ref a, rfl, a, 4, 3, 6, 10, rfl, T1, ?_⟩
    refine ⟨.ref a, rfl, a, 4, 3, 6, 16, 10, rfl, T1, ?_⟩
    refine ⟨by show 5 ≤ sizeLine; decide, fun g ng => ?_⟩
    refine ⟨.ref g, rfl, ?_⟩
    have s2 : Same H1 (upd H1 g (.lst [.int (4 + 3 - 1), vO (showBy 4 3 20), vO (closeBy 4 3 20), .int (leastIn 4 3 10), vO (goBy 4 3 16 10)])) := same_new ng
    have hg : (upd H1 g (.lst [.int (4 + 3 - 1), vO (showBy 4 3 20), vO (closeBy 4 3 20), .int (leastIn 4 3 10), vO (goBy 4 3 16 10)])) g = _ := upd_same
    generalize upd H1 g (.lst [.int (4 + 3 - 1), vO (showBy 4 3 20), vO (closeBy 4 3 20), .int (leastIn 4 3 10), vO (goBy 4 3 16 10)]) = H2 at s2 hg
    have T2 := T1.same s2
    refine ⟨.ref a, rfl, a, 4, 3, 6, 10, 2, rfl, T2, by decide, fun H3 p s3 np hp => ?_⟩
    refine ⟨.ref a, rfl, by show 0 ≤ sizeLine; decide, fun e ne => ?_⟩
    have s4 : Same H3 (upd H3 e (.tup [])) := same_new ne
    have T4 := (T2.same s3).same s4
    refine ⟨a, e, 4, 3, 6, 7, [], rfl, T4, .inl upd_same, by decide, fun H5 x s5 hx => ?_⟩
    have ex : x = 19 := by
      have := List.mem_singleton.mp hx.1
      rw [this]
      decide +kernel
    subst ex
    have T5 := T4.same s5
    refine ⟨.ref a, rfl, a, 4, 3, 6, 9, rfl, T5, ?_⟩
    refine ⟨.ref a, rfl, a, 4, 3, 6, 0, 9, rfl, T5, ?_⟩
    refine ⟨by show 4 ≤ sizeLine; decide, fun b nb => ?_⟩
    have s6 := s5.trans (same_new (o := .lst [.ref p, .int (19 + 1), vO (closeBy 4 3 9), .bl (inTime 4 3 0 9)]) nb)
    have s36 := s3.trans (s4.trans s6)
    refine ⟨g, b, _, _, rfl, rfl, s36 _ _ hg, upd_same, by show 9 ≤ sizeLine; decide, fun r nr => ?_⟩
    -- the due
    refine ⟨.ref r, rfl, by show 3 ≤ sizeLine; decide, fun t nt => ?_⟩
    refine ⟨by show 9 ≤ sizeLine; decide, fun u nu => ?_⟩
    have s8 := same_new (o := .tup [.int 22, .int 16, .int 10]) nt
    have s9 := same_new (o := .lst [.int 6, .int 15, .int 9, .int 16, .int 6, .ref t, .int 20, .non, .bl false]) nu
    have s7 := same_new (o := .lst ([.int (4 + 3 - 1), vO (showBy 4 3 20), vO (closeBy 4 3 20), .int (leastIn 4 3 10), vO (goBy 4 3 16 10)] ++ [.ref p, .int (19 + 1), vO (closeBy 4 3 9), .bl (inTime 4 3 0 9)])) nr
    have hp2 := s9 _ _ (s8 _ _ (s7 _ _ (s6 _ _ (s4 _ _ hp))))
    have ep : (endsOf 4 3 10 2).map V.int = [.int 22, .int 16, .int 10] := by decide +kernel
    rw [ep] at hp2
    refine ⟨.ref r, .ref u, rfl, eqv_lst (n := 1) (s9 _ _ (s8 _ _ upd_same)) upd_same ?_ (by show 9 ≤ 1000; decide), fun H' s10 => ?_⟩
    · refine .cons (Eqv.up ⟨by decide +kernel, by decide +kernel⟩) (.cons (Eqv.up ⟨by decide +kernel, by decide +kernel⟩) (.cons (Eqv.up ⟨by decide +kernel, by decide +kernel⟩) (.cons (Eqv.up ⟨by decide +kernel, by decide +kernel⟩)
        (.cons (Eqv.up ⟨by decide +kernel, by decide +kernel⟩) (.cons ?_ (.cons (Eqv.up ⟨by decide +kernel, by decide +kernel⟩) (.cons (Eqv.up ⟨by decide +kernel, by decide +kernel⟩) (.cons (Eqv.up ⟨by decide +kernel, by decide +kernel⟩) .nil))))))))
      exact eqv_tup (n := 0) hp2 (s9 _ _ upd_same) (eqv_refl (by decide)) (by decide)
    · exact q _ (s1.trans (s2.trans (s36.trans (s7.trans (s8.trans (s9.trans s10))))))
end
end Clk
namespace Clk
open PySem PySem.Spec PyProof.Rows L2
theorem keep_mut {t : Addr} {H H' : Hp} {p : Addr} {o : HO} (e : Keep t H H') (h : H p = none) : Keep t H (upd H' p o) := fun a u n ha => by
  rw [upd_ne (ne_of_none ha h)]
  exact e a u n ha
theorem box_mut {t : Addr} {H : Hp} {p : Addr} {o : HO} {n : Nat} (b : Box H t n) (h : p ≠ t) : Box (upd H p o) t n := by
  obtain ⟨x, y, z, e, q⟩ := b
  exact ⟨x, y, z, by rw [upd_ne h.symm]; exact e, q⟩
theorem Box.le {H : Hp} {t : Addr} {n m : Nat} (b : Box H t n) (h : n ≤ m) : Box H t m := by
  obtain ⟨x, y, z, e, q, r⟩ := b
  exact ⟨x, y, z, e, q, by omega⟩
theorem Tm.seq {K : PySem.W.Frag} {H : Hp} {a : Addr} {d l w : Int} (T : Tm H a d l w) : SqL K H a [.int d, .int l, .int w] ∨ SqT K H a [.int d, .int l, .int w] := by
  rcases T.at_ with e | e
  · exact .inr (SqT.of e)
  · exact .inl (SqL.of e)
section
variable {P : Program} {w : World} {K : PySem.W.Frag} {mg : Str → Option Value} {base : Heap}
def spRoutes : Sp := fun vs H Q _ => ∃ (t a : Addr) (d l w : Int) (n : Nat), vs = [.ref t, .ref a] ∧ Box H t n ∧ n ≤ 1000 ∧ Tm H a d l w ∧ a ≠ t ∧ ∀ H', Q (.bl true) H'
theorem ok_routes (B : Blt mg) {f : Addr} {fd : FuncData} (F : Fun K "_law_routes_right" "_law_routes_right" s_law_routes_right f fd) (hm : mg "_law_routes_right" = some (.ref f))
    (C_law_take : Cal P w K mg base 1 "_law_take" ["_law_tin", "_law_below_so"] spTake) (C_law_of : Cal P w K mg base 2 "_law_of" ["_law_tin", "_law_goods_so"] spOf)
    (C_law_at : Cal P w K mg base 1 "_law_at" ["_law_many_so", "_law_moment_so"] spAt) (C_law_in_end : Cal P w K mg base 2 "_law_in_end" ["_law_times_so", "_law_out_so"] spLeastIn)
    (C_law_close_by : Cal P w K mg base 2 "_law_close_by" ["_law_times_so", "_law_end_so"] spLClose) (C_least_ends : Cal P w K mg base 3 "least_ends" ["times", "many", "last"] spLeastEnds)
    (C_begin_by : Cal P w K mg base 4 "begin_by" ["times", "ends"] spBeginBy) (C_settled_by : Cal P w K mg base 2 "settled_by" ["times", "moment", "ends"] spSettled)
    (C_law_same : Cal P w K mg base 3 "_law_same" ["_law_got", "_law_due"] (spSame 2)) : Cal P w K mg base 5 "_law_routes_right" ["_law_tin", "_law_times"] spRoutes := by
  refine ⟨f, fd, F.ok sc_law_routes_right (fun vs H Q E h => ?_) (fun cdv A outer s H vs Q E hr h => ?_), hm, F.kp, F.binds fun _ _ _ _ _ _ us hl => match us, hl with | [_, _], _ => rfl⟩
  · obtain ⟨t, a, d, l, w, n, rfl, _⟩ := h
    rfl
  · obtain ⟨t, a, d, l, w, n, rfl, hb, hn, T, hat, q⟩ := h
    refine ⟨_, (pss_cons (ps_par (i := 2) (j := 3) (by rfl) sc_law_routes_right.nd rfl rfl (by decide) rfl rfl (pa_cons (pe_op op_add pe_int (pe_fn C_law_take hr (by rfl) (pa_cons (pv 0) (pa_cons pe_int pa_nil)))) (pa_cons (pe_fn C_law_take hr (by rfl) (pa_cons (pv 0) (pa_cons pe_int pa_nil))) pa_nil)) (by rfl))
      (pss_cons (ps_set (i := 4) sc_law_routes_right.nd rfl (.inl rfl) (pe_lst (pa_cons (pv 3) pa_nil)))
      (pss_cons (ps_while PassesOwn.never (pt_cmpR op_lt (pe_callB call_len_seq (by rfl) B.len (by decide +kernel) (pa_cons (pv 4) pa_nil)) (pv 2) (nomark _)) (pss_one (ps_set (i := 4) sc_law_routes_right.nd rfl (.inl rfl) (pe_op op_cat (pe_lst (pa_cons (pe_fn C_law_in_end hr (by rfl) (pa_cons (pv 1) (pa_cons (pe_ix (ix_seqK (K := K) rfl) (pv 4) pe_int (fun _ _ => rfl)) pa_nil))) pa_nil)) (pv 4)))))
      (pss_cons (ps_setLc (i := 5) (own := [("_law_lap", 6)]) (g := gName 6) (tt := tYes) rfl sc_law_routes_right.nd rfl rfl (sw_true rfl rfl rfl (by decide +kernel)) (pi_range1 (by rfl) B.range (pa_cons (pe_op op_add pe_int (pe_fn C_law_take hr (by rfl) (pa_cons (pv 0) (pa_cons pe_int pa_nil)))) pa_nil)) (blkOk_by (own := [("_law_lap", 6)]) (N := N_law_routes_right) (sc := defScope s_law_routes_right) (by decide +kernel)) (fun _ _ _ _ _ => (pg_name (i := 6) sc_law_routes_right.nd rfl (.inl rfl))) (fun _ _ _ _ _ => pts_nil) (fun _ _ _ _ _ => (pe_fn C_law_of hr (by rfl) (pa_cons (pv 0) (pa_cons (pe_lst (pa_cons (pe_fn C_law_take hr (by rfl) (pa_cons (pv 0) (pa_cons pe_int pa_nil))) (pa_cons (pe_fn C_law_take hr (by rfl) (pa_cons (pv 0) (pa_cons pe_int pa_nil))) pa_nil))) pa_nil)))))
      (pss_cons (ps_setLc (i := 7) (own := [("_law_own", 8)]) (g := gName 8) (tt := tYes) rfl sc_law_routes_right.nd rfl rfl (sw_true rfl rfl rfl (by decide +kernel)) (pi_list (pv 5)) (blkOk_by (own := [("_law_own", 8)]) (N := N_law_routes_right) (sc := defScope s_law_routes_right) (by decide +kernel)) (fun _ _ _ _ _ => (pg_name (i := 8) sc_law_routes_right.nd rfl (.inl rfl))) (fun _ _ _ _ _ => pts_nil) (fun _ _ _ _ _ => (pe_fn C_law_close_by hr (by rfl) (pa_cons (pv 1) (pa_cons (pv 8) pa_nil)))))
      (pss_cons (ps_set (i := 9) sc_law_routes_right.nd rfl (.inl rfl) (pe_fn C_law_take hr (by rfl) (pa_cons (pv 0) (pa_cons pe_int pa_nil))))
      (pss_cons (ps_set (i := 10) sc_law_routes_right.nd rfl (.inl rfl) (pe_lst (pa_cons (pe_fn C_least_ends hr (by rfl) (pa_cons (pe_callTy call_list_of (by rfl) B.t_list (by decide +kernel) (pa_cons (pv 1) pa_nil)) (pa_cons (pv 2) (pa_cons (pv 3) pa_nil)))) (pa_cons (pe_fn C_begin_by hr (by rfl) (pa_cons (pv 1) (pa_cons (pv 5) pa_nil))) (pa_cons (pe_fn C_settled_by hr (by rfl) (pa_cons (pv 1) (pa_cons (pv 9) (pa_cons (pe_callTy call_tuple_of (by rfl) B.t_tuple (by decide +kernel) (pa_cons (pv 5) pa_nil)) pa_nil)))) (pa_cons (pe_fn C_settled_by hr (by rfl) (pa_cons (pv 1) (pa_cons (pv 9) (pa_cons (pe_lst pa_nil) pa_nil)))) pa_nil))))))
      (pss_cons (ps_set (i := 11) sc_law_routes_right.nd rfl (.inl rfl) (pe_op op_add (pe_op op_add (pe_fn C_law_at hr (by rfl) (pa_cons (pe_ix (ix_seqK (K := K) rfl) (pv 1) pe_int (fun _ _ => rfl)) (pa_cons (pv 9) pa_nil))) (pe_ix (ix_seqK (K := K) rfl) (pv 1) pe_int (fun _ _ => rfl))) (pe_ix (ix_seqK (K := K) rfl) (pv 1) pe_int (fun _ _ => rfl))))
      (pss_cons (ps_set (i := 12) sc_law_routes_right.nd rfl (.inl rfl) (pe_lst (pa_cons (pe_callTy call_tuple_of (by rfl) B.t_tuple (by decide +kernel) (pa_cons (pv 4) pa_nil)) (pa_cons (pe_ifExp (pt_cmpR op_in_seq pe_non (pv 7) (by rfl)) pe_non (pe_callB (cr_min rfl) (by rfl) B.min (by decide +kernel) (pa_cons (pv 7) pa_nil))) (pa_cons (pe_op op_add (pe_callB (cr_max rfl) (by rfl) B.max (by decide +kernel) (pa_cons (pe_op op_cat (pe_lst (pa_cons (pv 11) pa_nil)) (pv 5)) pa_nil)) pe_int) (pa_cons (pe_op op_add (pv 11) pe_int) pa_nil))))))
      (pss_one (ps_ret (pe_fn C_law_same hr (by rfl) (pa_cons (pv 10) (pa_cons (pv 12) pa_nil)))))))))))))), ?_⟩
    -- many, last = 1 + take(tin, 5), take(tin, 100)
    refine ⟨.ref t, rfl, t, 5, n, rfl, hb, by omega, by decide, by decide, fun H1 r1 k1 b1 r10 r15 => ?_⟩
    obtain ⟨k, rfl⟩ : ∃ k : Nat, r1 = (k : Int) := ⟨r1.toNat, by omega⟩
    refine ⟨1, _, rfl, rfl, .ref t, rfl, t, 100, n + 1, rfl, b1, by omega, by decide, by decide, fun H2 last k2 b2 last0 last1 => ?_⟩
    refine ⟨_, _, rfl, ?_⟩
    have T2 := T.keep (k1.trans k2) hat
    -- ends = [last]
    refine ⟨_, rfl, by show 1 ≤ sizeLine; decide, fun o no => ?_⟩
    have s3 : Same H2 (upd H2 o (.lst [.int last])) := same_new no
    have ho : (upd H2 o (.lst [.int last])) o = some (.lst [.int last]) := upd_same
    have not := b2.ne no
    generalize upd H2 o (.lst [.int last]) = H3 at s3 ho
    have T3 := T2.same s3
    have b3 := b2.same s3
    -- while len(ends) < many
    refine ⟨fun m σ' H' => ∃ (j : Nat) (o : Addr), σ' = [some (.ref t), some (.ref a), some (.int (1 + (k : Int))), some (.int last), some (.ref o), none, none, none, none, none, none, none, none] ∧ o ≠ t ∧ Same H3 H' ∧ H' o = some (.lst ((endsOf d l last j).map V.int)) ∧ j ≤ k ∧ m = k - j,
      ⟨k, 0, o, rfl, not, Same.refl _, ho, Nat.zero_le _, rfl⟩, ?_⟩
    rintro m σ' H4 ⟨j, o4, rfl, hot, s4, ho4, jk, rfl⟩
    have b4 := b3.same s4
    refine ⟨.ref o4, rfl, o4, _, rfl, .inl (SqL.of ho4), .int (1 + (k : Int)), rfl, _, _, rfl, rfl, _, rfl, ite2 (fun c => ?_) (fun c => ?_)⟩
    · have c1 : (((endsOf d l last j).map V.int).length : Int) < 1 + (k : Int) := of_decide_eq_true c
      rw [List.length_map, endsOf_len] at c1
      refine ⟨fun σ' H' => ∃ (o : Addr), σ' = [some (.ref t), some (.ref a), some (.int (1 + (k : Int))), some (.int last), some (.ref o), none, none, none, none, none, none, none, none] ∧ o ≠ t ∧ Same H3 H' ∧ H' o = some (.lst ((endsOf d l last (j + 1)).map V.int)),
        fun σ' H' ⟨o', e, n1, s, h⟩ => ⟨k - (j + 1), by omega, j + 1, o', e, n1, s, h, by omega, rfl⟩, ?_⟩
      refine ⟨.ref a, rfl, .ref o4, rfl, ixL ho4 0 (ends_head d l last j) ?_⟩
      refine ⟨a, d, l, w, _, rfl, T3.same s4, ?_⟩
      refine ⟨by show 1 ≤ sizeLine; decide, fun p np => ?_⟩
      have s5 := same_new (o := .lst [.int (leastIn d l ((endsOf d l last j).headD 0))]) np
      refine ⟨.ref o4, rfl, p, o4, _, _, rfl, rfl, upd_same, s5 _ _ ho4, ?_, fun p2 np2 => ?_⟩
      · rw [List.length_map, endsOf_len]
        exact small100' (by
          show 1 + (j + 1) ≤ 100000
          omega)
      · refine ⟨p2, rfl, (b4.same s5).ne np2, s4.trans (s5.trans (same_new np2)), ?_⟩
        rw [upd_same]
        rfl
    · have c1 : ¬ (((endsOf d l last j).map V.int).length : Int) < 1 + (k : Int) := fun z => c (decide_eq_true z)
      rw [List.length_map, endsOf_len] at c1
      have ej : j = k := by omega
      subst ej
      have T4 := T3.same s4
      -- some = [..]
      refine ⟨.ref t, rfl, t, 3, n + 2, rfl, b4, by omega, by decide, by decide, fun H5 r3 k5 b5 r30 r33 => ?_⟩
      refine ⟨1, _, rfl, rfl, _, rfl, by omega, by omega, fun D nD => ?_⟩
      have T5 := T4.keep k5 hat
      have ho5 := k5 _ _ hot ho4
      have hDt := b5.ne nD
      refine lc_range (n := (1 + r3).toNat) (lo := 0) (fun i H' => Keep t H5 H' ∧ Box H' t (n + 3 + 3 * i) ∧ ∃ zs : List Int, zs.length = i ∧ (∀ z ∈ zs, 0 ≤ z ∧ z < 300) ∧ H' D = some (.lst (zs.map V.int)))
        ⟨keep_mut (Keep.refl t H5) nD, box_mut b5 hDt, [], rfl, (fun z hz => nomatch hz), upd_same⟩ (fun i H' hi pv => ?_) (fun H6 pv => ?_)
      · obtain ⟨k6, b6, zs, ez, hz, hD⟩ := pv
        refine ⟨rfl, ?_⟩
        refine ⟨.ref t, rfl, ?_⟩
        refine ⟨.ref t, rfl, t, 300, _, rfl, b6, by omega, by decide, by decide, fun H7 x1 k7 b7 x10 x11 => ?_⟩
        refine ⟨.ref t, rfl, t, 40, _, rfl, b7, by omega, by decide, by decide, fun H8 x2 k8 b8 x20 x21 => ?_⟩
        refine ⟨by show 2 ≤ sizeLine; decide, fun g ng => ?_⟩
        have hgt := b8.ne ng
        refine ⟨t, g, _, [.int x1, .int x2], rfl, box_mut b8 hgt, by omega, upd_same, hgt, by show 0 < 2; decide, by show 2 ≤ 1000; decide, fun H9 x k9 b9 hx => ?_⟩
        have kk : Keep t H' H9 := (k7.trans k8).trans ((Keep.of (same_new ng)).trans k9)
        have hD9 := kk _ _ hDt hD
        have hxi : ∃ z : Int, x = .int z ∧ 0 ≤ z ∧ z < 300 := by
          rcases List.mem_cons.mp hx with e | hx
          · exact ⟨x1, e, x10, by omega⟩
          · rcases List.mem_cons.mp hx with e | hx
            · exact ⟨x2, e, x20, by omega⟩
            · cases hx
        obtain ⟨z, rfl, z0, z1⟩ := hxi
        refine ⟨_, hD9, ?_, keep_mut (k6.trans kk) nD, (box_mut b9 hDt).le (by omega), zs ++ [z], ?_, ?_, ?_⟩
        · rw [List.length_map]
          exact small100 (by omega)
        · rw [List.length_append, ez]
          rfl
        · intro y hy
          rcases List.mem_append.mp hy with h | h
          · exact hz y h
          · rw [List.mem_singleton.mp h]
            exact ⟨z0, z1⟩
        · rw [upd_same, List.map_append]
          rfl
      · obtain ⟨k6, b6, zs, ez, hz, hD⟩ := pv
        have T6 := T5.keep k6 hat
        have ho6 := k6 _ _ hot ho5
        have zne : zs ≠ [] := by
          intro e
          rw [e] at ez
          have : (0 : Nat) = (1 + r3).toNat := ez
          omega
        have zl : zs.length ≤ 3 := by omega
        -- looks = [..]
        refine ⟨.ref D, rfl, D, rfl, ⟨_, SqL.of hD⟩, fun L nL => ?_⟩
        refine lc_list (xs := zs.map V.int) (fun i H' => Same H6 H' ∧ H' L = some (.lst (((zs.take i).map (closeBy d l)).map vO))) ⟨same_new nL, upd_same⟩ (fun i H' _ pv => SqL.of (pv.1 _ _ hD)) (fun i x H' hx pv => ?_) (fun H7 pv => ?_)
        · obtain ⟨sm, hL⟩ := pv
          rw [List.getElem?_map] at hx
          cases hn : zs[i]? with
          | none =>
            rw [hn] at hx
            cases hx
          | some e =>
            rw [hn] at hx
            cases hx
            obtain ⟨e0, e1⟩ := hz e (List.mem_of_getElem? hn)
            refine ⟨rfl, ?_⟩
            refine ⟨.ref a, rfl, .int e, rfl, a, d, l, w, e, rfl, T6.same sm, e0, by omega, fun H8 s8 => ?_⟩
            refine ⟨_, s8 _ _ hL, ?_, same_mut (sm.trans s8) nL, ?_⟩
            · rw [List.length_map, List.length_map, List.length_take]
              exact small100 (by omega)
            · rw [upd_same, List.take_add_one, hn, List.map_append, List.map_append]
              rfl
        · obtain ⟨s7, hL⟩ := pv
          rw [List.length_map, List.take_of_length_le (Nat.le_refl _)] at hL
          have hLt := b6.ne nL
          have b7 := b6.same s7
          -- moment
          refine ⟨.ref t, rfl, t, 300, _, rfl, b7, by omega, by decide, by decide, fun H8 mo k8 b8 mo0 mo1 => ?_⟩
          have T8 := (T6.same s7).keep k8 hat
          have ho8 := k8 _ _ hot (s7 _ _ ho6)
          have hD8 := k8 _ _ hDt (s7 _ _ hD)
          have hL8 := k8 _ _ hLt hL
          clear k8 b8 b7 s7 hL hD ho6 ho5 T6 T5 k6 k5 b6 b5 nL nD
          -- got
          refine ⟨.ref a, rfl, a, _, rfl, T8.seq, fun c nc => ?_⟩
          have s9 := same_new (o := .lst [.int d, .int l, .int w]) nc
          have T9 : Tm (upd H8 c (.lst [.int d, .int l, .int w])) c d l w := ⟨.inr upd_same, T8.d0, T8.d1, T8.l0, T8.l1⟩
          refine ⟨.int (1 + (j : Int)), rfl, .int last, rfl, ?_⟩
          rw [show (1 : Int) + (j : Int) = (j : Int) + 1 by omega]
          refine ⟨c, d, l, w, last, j, rfl, T9, by omega, fun H10 p1 s10 np1 hp1 => ?_⟩
          have s810 := s9.trans s10
          refine ⟨.ref a, rfl, .ref D, rfl, a, D, d, l, w, zs, rfl, T8.same s810, s810 _ _ hD8, zne, by omega, fun H11 mn s11 hmn => ?_⟩
          have s811 := s810.trans s11
          refine ⟨.ref a, rfl, .int mo, rfl, .ref D, rfl, D, _, rfl, .inl ⟨SqL.of (s811 _ _ hD8), fun p2 np2 => ?_⟩⟩
          have s12 := same_new (o := .tup (zs.map V.int)) np2
          have s812 := s811.trans s12
          refine ⟨a, p2, d, l, w, mo, zs, rfl, T8.same s812, .inl upd_same, by omega, fun H13 x1 s13 hx1 => ?_⟩
          have s813 := s812.trans s13
          refine ⟨.ref a, rfl, .int mo, rfl, by show 0 ≤ sizeLine; decide, fun p3 np3 => ?_⟩
          have s14 := same_new (o := .lst []) np3
          have s814 := s813.trans s14
          refine ⟨a, p3, d, l, w, mo, [], rfl, T8.same s814, .inr upd_same, by decide, fun H15 x2 s15 hx2 => ?_⟩
          have s815 := s814.trans s15
          refine ⟨by show 4 ≤ sizeLine; decide, fun g ng => ?_⟩
          have s16 := same_new (o := .lst [.ref p1, vO mn, .int (x1 + 1), .int (x2 + 1)]) ng
          have s816 := s815.trans s16
          have hg : (upd H15 g (.lst [.ref p1, vO mn, .int (x1 + 1), .int (x2 + 1)])) g = _ := upd_same
          have hp16 := s16 _ _ (s15 _ _ (s14 _ _ (s13 _ _ (s12 _ _ (s11 _ _ hp1)))))
          generalize upd H15 g (.lst [.ref p1, vO mn, .int (x1 + 1), .int (x2 + 1)]) = H16 at s16 s816 hg hp16
          -- free
          have T16 := T8.same s816
          refine ⟨.ref a, rfl, T16.ix 1 rfl ?_⟩
          refine ⟨.int mo, rfl, l, mo, rfl, T16.l0, ?_⟩
          refine ⟨.ref a, rfl, T16.ix 0 rfl ?_⟩
          refine ⟨_, _, rfl, rfl, .ref a, rfl, T16.ix 2 rfl ?_⟩
          refine ⟨_, _, rfl, rfl, ?_⟩
          -- due
          refine ⟨.ref o4, rfl, o4, _, rfl, .inl ⟨SqL.of (s816 _ _ ho8), fun p4 np4 => ?_⟩⟩
          have s17 := same_new (o := .tup ((endsOf d l last j).map V.int)) np4
          have s817 := s816.trans s17
          refine min_read rfl (s817 _ _ hL8) (fun z => zne (List.map_eq_nil_iff.mp z)) fun mn2 hmn2 => ?_
          have emn := least_one hmn hmn2
          subst emn
          refine ⟨_, rfl, by show 1 ≤ sizeLine; decide, fun p5 np5 => ?_⟩
          have s18 := same_new (o := .lst [.int (lookAt l mo + d + w)]) np5
          refine ⟨.ref D, rfl, p5, D, _, _, rfl, rfl, upd_same, s18 _ _ (s817 _ _ hD8), ?_, fun p6 np6 => ?_⟩
          · rw [List.length_map]
            exact small100' (by
              show 1 + zs.length ≤ 100000
              omega)
          have s19 := same_new (o := .lst ([.int (lookAt l mo + d + w)] ++ zs.map V.int)) np6
          refine ⟨p6, (lookAt l mo + d + w) :: zs, rfl, SqL.of upd_same, Nat.succ_pos _, fun x3 hx3 hm3 => ?_⟩
          have ex := top_one hx1 ⟨hx3, hm3⟩
          subst ex
          refine ⟨_, _, rfl, rfl, ?_⟩
          refine ⟨_, rfl, _, _, rfl, rfl, ?_⟩
          refine ⟨by show 4 ≤ sizeLine; decide, fun u nu => ?_⟩
          have ex2 : x2 = lookAt l mo + d + w := List.mem_singleton.mp hx2.1
          subst ex2
          have s20 := same_new (o := .lst [.ref p4, vO mn, .int (x1 + 1), .int (lookAt l mo + d + w + 1)]) nu
          -- same(got, due)
          refine ⟨.ref g, rfl, .ref u, rfl, .ref g, .ref u, rfl, eqv_lst (n := 1) (s20 _ _ (s19 _ _ (s18 _ _ (s17 _ _ hg)))) upd_same ?_ (by show 4 ≤ 1000; decide), fun H' _ => q H'⟩
          refine .cons ?_ (eqv_refl ?_)
          · refine eqv_tup (n := 0) (s20 _ _ (s19 _ _ (s18 _ _ (s17 _ _ hp16)))) (s20 _ _ (s19 _ _ (s18 _ _ upd_same))) (eqv_refl ?_) ?_
            · rw [List.all_map]
              exact List.all_eq_true.mpr fun _ _ => rfl
            · rw [List.length_map, endsOf_len]
              omega
          · cases mn <;> rfl
end
end Clk
namespace Clk
open PySem PySem.Spec PyProof.Rows L2
theorem cut_two (x y z : V) : cutV [x, y, z] none (some 2) = [x, y] := by
  unfold cutV
  rw [HT.sIx_none, show HT.sIx [x, y, z].length [x, y, z].length (some 2) = min 2 3 from HT.sIx_nat 3 3 2]
  rfl
theorem not_whole (x y z : V) : ¬ (HT.sIx [x, y, z].length 0 none = 0 ∧ HT.sIx [x, y, z].length [x, y, z].length (some 2) = [x, y, z].length) := by
  rw [show HT.sIx [x, y, z].length [x, y, z].length (some 2) = min 2 3 from HT.sIx_nat 3 3 2]
  intro h
  have : min 2 3 = 3 := h.2
  omega
theorem leastIn_in {d l o : Int} (d0 : 0 < d) (l0 : 0 < l) (o0 : 0 ≤ o) : 0 ≤ leastIn d l o ∧ leastIn d l o < o + l + d := by
  unfold leastIn
  have h1 := lookAt_le o l0
  have h2 := lookAt_lt o l0
  omega
/-- what stands between the statements of a lap -/
structure Lap (H0 H : Hp) (t g u : Addr) (xs : List V) : Prop where
  sm : Keep t H0 H
  ng : H0 g = none
  nu : H0 u = none
  ne : g ≠ u
  hg : H g = some (.lst xs)
  hu : H u = some (.lst xs)
  sc : xs.all scalB = true
  len : xs.length ≤ 100
theorem Lap.same {H0 H H' : Hp} {t g u : Addr} {xs : List V} (L : Lap H0 H t g u xs) (s : Same H H') : Lap H0 H' t g u xs :=
  ⟨L.sm.trans (Keep.of s), L.ng, L.nu, L.ne, s _ _ L.hg, s _ _ L.hu, L.sc, L.len⟩
section
variable {P : Program} {w : World} {K : PySem.W.Frag} {mg : Str → Option Value} {base : Heap}
def spRight : Sp := fun vs H Q _ => ∃ t : Addr, vs = [.ref t] ∧ Box H t 0 ∧ ∀ H', Q (.bl true) H'
theorem ok_right (B : Blt mg) {f : Addr} {fd : FuncData} (F : Fun K "_law_right" "_law_right" s_law_right f fd) (hm : mg "_law_right" = some (.ref f))
    (C_law_take : Cal P w K mg base 1 "_law_take" ["_law_tin", "_law_below_so"] spTake) (C_law_of : Cal P w K mg base 2 "_law_of" ["_law_tin", "_law_goods_so"] spOf)
    (C_law_at : Cal P w K mg base 1 "_law_at" ["_law_many_so", "_law_moment_so"] spAt) (C_law_in_end : Cal P w K mg base 2 "_law_in_end" ["_law_times_so", "_law_out_so"] spLeastIn)
    (C_law_show_by : Cal P w K mg base 1 "_law_show_by" ["_law_times_so", "_law_end_so"] spLShow) (C_law_close_by : Cal P w K mg base 2 "_law_close_by" ["_law_times_so", "_law_end_so"] spLClose)
    (C_law_wait_needed : Cal P w K mg base 2 "_law_wait_needed" ["_law_delay_so", "_law_look_so"] spNeeded)
    (C_least_wait : Cal P w K mg base 1 "least_wait" ["delay", "look"] spLeastWait) (C_enough_wait : Cal P w K mg base 2 "enough_wait" ["times"] spEnoughWait)
    (C_show_by : Cal P w K mg base 2 "show_by" ["times", "end"] spShowBy) (C_close_by : Cal P w K mg base 3 "close_by" ["times", "end"] spCloseBy)
    (C_in_time : Cal P w K mg base 4 "in_time" ["times", "moment", "end"] spInTime) (C_least_in_end : Cal P w K mg base 2 "least_in_end" ["times", "out_end"] spLeastIn)
    (C_enough_gap : Cal P w K mg base 3 "enough_gap" ["times", "in_end", "out_end"] spEnoughGap) (C_go_by : Cal P w K mg base 4 "go_by" ["times", "in_end", "out_end"] spGoBy)
    (C_law_routes_right : Cal P w K mg base 5 "_law_routes_right" ["_law_tin", "_law_times"] spRoutes)
    (C_law_same : Cal P w K mg base 3 "_law_same" ["_law_got", "_law_due"] (spSame 2)) : Cal P w K mg base 6 "_law_right" ["_law_tin"] spRight := by
  refine ⟨f, fd, F.ok sc_law_right (fun vs H Q E h => ?_) (fun cdv A outer s H vs Q E hr h => ?_), hm, F.kp, F.binds fun _ _ _ _ _ _ us hl => match us, hl with | [_], _ => rfl⟩
  · obtain ⟨t, rfl, _⟩ := h
    rfl
  · obtain ⟨t, rfl, hb, q⟩ := h
    refine ⟨_, (pss_cons (ps_set (i := 1) sc_law_right.nd rfl (.inl rfl) (pe_tup (pa_cons (pe_op op_add pe_int (pe_fn C_law_take hr (by rfl) (pa_cons (pv 0) (pa_cons pe_int pa_nil)))) (pa_cons (pe_op op_add pe_int (pe_fn C_law_take hr (by rfl) (pa_cons (pv 0) (pa_cons pe_int pa_nil)))) (pa_cons (pe_fn C_law_take hr (by rfl) (pa_cons (pv 0) (pa_cons pe_int pa_nil))) pa_nil)))))
      (pss_cons (ps_set (i := 2) sc_law_right.nd rfl (.inl rfl) (pe_callTy call_list_of (by rfl) B.t_list (by decide +kernel) (pa_cons (pv 1) pa_nil)))
      (pss_cons (ps_set (i := 3) sc_law_right.nd rfl (.inl rfl) (pe_fn C_law_wait_needed hr (by rfl) (pa_cons (pe_ix (ix_seqK (K := K) rfl) (pv 1) pe_int (fun _ _ => rfl)) (pa_cons (pe_ix (ix_seqK (K := K) rfl) (pv 1) pe_int (fun _ _ => rfl)) pa_nil))))
      (pss_cons (ps_set (i := 4) sc_law_right.nd rfl (.inl rfl) (pe_lst (pa_cons (pe_fn C_least_wait hr (by rfl) (pa_cons (pe_ix (ix_seqK (K := K) rfl) (pv 1) pe_int (fun _ _ => rfl)) (pa_cons (pe_ix (ix_seqK (K := K) rfl) (pv 1) pe_int (fun _ _ => rfl)) pa_nil))) (pa_cons (pe_fn C_enough_wait hr (by rfl) (pa_cons (pv 2) pa_nil)) (pa_cons (pe_fn C_enough_wait hr (by rfl) (pa_cons (pe_op op_catT (pe_slice sl_tup (pv 1) po_none (po_some pe_int)) (pe_tup (pa_cons (pv 3) pa_nil))) pa_nil)) (pa_cons (pe_fn C_enough_wait hr (by rfl) (pa_cons (pe_op op_catT (pe_slice sl_tup (pv 1) po_none (po_some pe_int)) (pe_tup (pa_cons (pe_op op_sub (pv 3) pe_int) pa_nil))) pa_nil)) pa_nil))))))
      (pss_cons (ps_if (pt_not (pt_val (pe_fn C_law_same hr (by rfl) (pa_cons (pv 4) (pa_cons (pe_lst (pa_cons (pv 3) (pa_cons (pe_cmpR op_ge (pe_ix (ix_seqK (K := K) rfl) (pv 1) pe_int (fun _ _ => rfl)) (pv 3) (nomark _)) (pa_cons pe_bl (pa_cons pe_bl pa_nil))))) pa_nil))))) (pss_one (ps_ret pe_bl)) pss_nil)
      (pss_cons (ps_for PassesOwn.never rfl (pi_range1 (by rfl) B.range (pa_cons pe_int pa_nil)) (pg_name (i := 5) sc_law_right.nd rfl (.inl rfl)) (pss_cons (ps_par3 (i := 6) (j := 7) (l := 8) (by rfl) sc_law_right.nd rfl rfl rfl (by decide) (by decide) (by decide) rfl rfl rfl (pa_cons (pe_fn C_law_of hr (by rfl) (pa_cons (pv 0) (pa_cons (pe_lst (pa_cons (pe_fn C_law_take hr (by rfl) (pa_cons (pv 0) (pa_cons pe_int pa_nil))) (pa_cons (pe_fn C_law_take hr (by rfl) (pa_cons (pv 0) (pa_cons pe_int pa_nil))) pa_nil))) pa_nil))) (pa_cons (pe_fn C_law_take hr (by rfl) (pa_cons (pv 0) (pa_cons pe_int pa_nil))) (pa_cons (pe_fn C_law_take hr (by rfl) (pa_cons (pv 0) (pa_cons pe_int pa_nil))) pa_nil))) (by rfl))
      (pss_cons (ps_par (i := 9) (j := 10) (by rfl) sc_law_right.nd rfl rfl (by decide) rfl rfl (pa_cons (pe_fn C_law_show_by hr (by rfl) (pa_cons (pv 1) (pa_cons (pv 6) pa_nil))) (pa_cons (pe_fn C_law_close_by hr (by rfl) (pa_cons (pv 1) (pa_cons (pv 6) pa_nil))) pa_nil)) (by rfl))
      (pss_cons (ps_set (i := 4) sc_law_right.nd rfl (.inl rfl) (pe_lst (pa_cons (pe_fn C_show_by hr (by rfl) (pa_cons (pv 1) (pa_cons (pv 6) pa_nil))) (pa_cons (pe_fn C_close_by hr (by rfl) (pa_cons (pv 2) (pa_cons (pv 6) pa_nil))) (pa_cons (pe_fn C_in_time hr (by rfl) (pa_cons (pv 1) (pa_cons (pv 8) (pa_cons (pv 6) pa_nil)))) pa_nil)))))
      (Evl.pss_cut (ps_set (i := 11) sc_law_right.nd rfl (.inl rfl) (pe_lst (pa_cons (pv 9) (pa_cons (pv 10) (pa_cons (pe_and (pe_cmpR op_notN (pv 10) pe_non (nomark _)) (pe_one (pe_cmpR op_le (pv 8) (pv 10) (nomark _)))) pa_nil)))))
      (Evl.pss_cut (ps_if (pt_cmpR op_notN (pv 10) pe_non (nomark _)) (pss_cons (ps_set (i := 4) sc_law_right.nd rfl (.inl rfl) (pe_op op_cat (pv 4) (pe_lst (pa_cons (pe_fn C_in_time hr (by rfl) (pa_cons (pv 2) (pa_cons (pv 10) (pa_cons (pv 6) pa_nil)))) (pa_cons (pe_fn C_in_time hr (by rfl) (pa_cons (pv 1) (pa_cons (pe_op op_add (pv 10) pe_int) (pa_cons (pv 6) pa_nil)))) pa_nil)))))
      (pss_one (ps_set (i := 11) sc_law_right.nd rfl (.inl rfl) (pe_op op_cat (pv 11) (pe_lst (pa_cons pe_bl (pa_cons pe_bl pa_nil))))))) pss_nil)
      (pss_cons (ps_set (i := 12) sc_law_right.nd rfl (.inl rfl) (pe_fn C_law_in_end hr (by rfl) (pa_cons (pv 1) (pa_cons (pv 7) pa_nil))))
      (pss_cons (ps_set (i := 4) sc_law_right.nd rfl (.inl rfl) (pe_op op_cat (pv 4) (pe_lst (pa_cons (pe_fn C_least_in_end hr (by rfl) (pa_cons (pv 2) (pa_cons (pv 7) pa_nil))) (pa_cons (pe_fn C_enough_gap hr (by rfl) (pa_cons (pv 1) (pa_cons (pv 12) (pa_cons (pv 7) pa_nil)))) (pa_cons (pe_fn C_enough_gap hr (by rfl) (pa_cons (pv 1) (pa_cons (pe_op op_sub (pv 12) pe_int) (pa_cons (pv 7) pa_nil)))) pa_nil))))))
      (pss_cons (ps_set (i := 11) sc_law_right.nd rfl (.inl rfl) (pe_op op_cat (pv 11) (pe_lst (pa_cons (pv 12) (pa_cons pe_bl (pa_cons pe_bl pa_nil))))))
      (pss_cons (ps_for PassesOwn.never rfl (pi_tup (pe_tup (pa_cons (pv 12) (pa_cons (pe_op op_add (pv 12) (pe_fn C_law_take hr (by rfl) (pa_cons (pv 0) (pa_cons pe_int pa_nil)))) (pa_cons (pv 6) pa_nil))))) (pg_name (i := 13) sc_law_right.nd rfl (.inl rfl)) (pss_cons (ps_set (i := 14) sc_law_right.nd rfl (.inl rfl) (pe_fn C_law_close_by hr (by rfl) (pa_cons (pv 1) (pa_cons (pv 13) pa_nil))))
      (pss_cons (ps_expr (pe_bm PySem.F.plainAttrs_list PySem.F.slot_list_append PySem.F.type_list_append mt_append (pv 4) (pa_cons (pe_fn C_go_by hr (by rfl) (pa_cons (pv 1) (pa_cons (pv 13) (pa_cons (pv 7) pa_nil)))) pa_nil)))
      (pss_one (ps_expr (pe_bm PySem.F.plainAttrs_list PySem.F.slot_list_append PySem.F.type_list_append mt_append (pv 11) (pa_cons (pe_ifExp (PW.pt (pw_and (pt_cmpR op_notN (pv 14) pe_non (nomark _)) (pw_and1 (pt_cmpR op_lt (pv 14) (pe_fn C_law_at hr (by rfl) (pa_cons (pe_ix (ix_seqK (K := K) rfl) (pv 1) pe_int (fun _ _ => rfl)) (pa_cons (pv 7) pa_nil))) (nomark _))))) (pv 14) pe_non) pa_nil)))))))
      (pss_one (ps_if (pt_not (pt_val (pe_fn C_law_same hr (by rfl) (pa_cons (pv 4) (pa_cons (pv 11) pa_nil))))) (pss_one (ps_ret pe_bl)) pss_nil))))))))))))
      (pss_one (ps_ret (pe_fn C_law_routes_right hr (by rfl) (pa_cons (pv 0) (pa_cons (pv 1) pa_nil))))))))))), ?_⟩
    -- times
    refine ⟨.ref t, rfl, t, 10, 0, rfl, hb, by decide, by decide, by decide, fun H1 r1 k1 b1 r10 r11 => ?_⟩
    refine ⟨1, r1, rfl, rfl, .ref t, rfl, t, 10, 1, rfl, b1, by decide, by decide, by decide, fun H2 r2 k2 b2 r20 r21 => ?_⟩
    refine ⟨1, r2, rfl, rfl, .ref t, rfl, t, 41, 2, rfl, b2, by decide, by decide, by decide, fun H3 w k3 b3 w0 w1 => ?_⟩
    refine ⟨by show 3 ≤ sizeLine; decide, fun a na => ?_⟩
    have hd0 : 0 < 1 + r1 := by omega
    have hd1 : 1 + r1 ≤ 1000 := by omega
    have hl0 : 0 < 1 + r2 := by omega
    have hl1 : 1 + r2 ≤ 1000 := by omega
    dsimp only
    generalize 1 + r1 = d at hd0 hd1
    generalize 1 + r2 = l at hl0 hl1
    have hat := b3.ne na
    have b4 := b3.same (same_new (o := .tup [.int d, .int l, .int w]) na)
    have hA : (upd H3 a (.tup [.int d, .int l, .int w])) a = _ := upd_same
    generalize upd H3 a (.tup [.int d, .int l, .int w]) = H4 at b4 hA
    have T4 : Tm H4 a d l w := ⟨.inl hA, hd0, hd1, hl0, hl1⟩
    -- soft
    refine ⟨.ref a, rfl, a, _, rfl, T4.seq, fun b nb => ?_⟩
    have hbt := b4.ne nb
    have s5 := same_new (o := .lst [.int d, .int l, .int w]) nb
    have T5 := T4.same s5
    have hA5 := s5 _ _ hA
    have b5 := b4.same s5
    have U5 : Tm (upd H4 b (.lst [.int d, .int l, .int w])) b d l w := ⟨.inr upd_same, hd0, hd1, hl0, hl1⟩
    generalize upd H4 b (.lst [.int d, .int l, .int w]) = H5 at s5 T5 hA5 b5 U5
    -- need
    refine ⟨.ref a, rfl, T5.ix 0 rfl ?_⟩
    refine ⟨.ref a, rfl, T5.ix 1 rfl ?_⟩
    refine ⟨d, l, rfl, hd0, hd1, hl0, hl1, ?_⟩
    -- got
    refine ⟨.ref a, rfl, T5.ix 0 rfl ?_⟩
    refine ⟨.ref a, rfl, T5.ix 1 rfl ?_⟩
    refine ⟨d, l, rfl, ?_⟩
    refine ⟨.ref b, rfl, b, d, l, w, rfl, U5, ?_⟩
    refine ⟨.ref a, rfl, 2, rfl, a, _, rfl, SqT.of hA5, not_whole _ _ _, fun p1 np1 => ?_⟩
    rw [cut_two]
    have s6 := same_new (o := .tup [.int d, .int l]) np1
    refine ⟨.int (d + l - 1), rfl, by show 1 ≤ sizeLine; decide, fun p2 np2 => ?_⟩
    have s7 := same_new (o := .tup [.int (d + l - 1)]) np2
    refine ⟨p1, p2, _, _, rfl, rfl, SqT.of (s7 _ _ upd_same), SqT.of upd_same, (fun z => nomatch z), by show 3 ≤ sizeLine; decide, (fun z => nomatch z), fun _ p3 np3 => ?_⟩
    have s8 := same_new (o := .tup ([.int d, .int l] ++ [.int (d + l - 1)])) np3
    refine ⟨p3, d, l, d + l - 1, rfl, ⟨.inl upd_same, hd0, hd1, hl0, hl1⟩, ?_⟩
    have s58 := s6.trans (s7.trans s8)
    generalize upd (upd (upd H5 p1 (.tup [.int d, .int l])) p2 (.tup [.int (d + l - 1)])) p3 (.tup ([.int d, .int l] ++ [.int (d + l - 1)])) = H8 at s58
    refine ⟨.ref a, rfl, 2, rfl, a, _, rfl, SqT.of (s58 _ _ hA5), not_whole _ _ _, fun p4 np4 => ?_⟩
    rw [cut_two]
    have s9 := same_new (o := .tup [.int d, .int l]) np4
    refine ⟨.int (d + l - 1), rfl, _, _, rfl, rfl, by show 1 ≤ sizeLine; decide, fun p5 np5 => ?_⟩
    have s10 := same_new (o := .tup [.int (d + l - 1 - 1)]) np5
    refine ⟨p4, p5, _, _, rfl, rfl, SqT.of (s10 _ _ upd_same), SqT.of upd_same, (fun z => nomatch z), by show 3 ≤ sizeLine; decide, (fun z => nomatch z), fun _ p6 np6 => ?_⟩
    have s11 := same_new (o := .tup ([.int d, .int l] ++ [.int (d + l - 1 - 1)])) np6
    refine ⟨p6, d, l, d + l - 1 - 1, rfl, ⟨.inl upd_same, hd0, hd1, hl0, hl1⟩, ?_⟩
    have s511 := s58.trans (s9.trans (s10.trans s11))
    generalize upd (upd (upd H8 p4 (.tup [.int d, .int l])) p5 (.tup [.int (d + l - 1 - 1)])) p6 (.tup ([.int d, .int l] ++ [.int (d + l - 1 - 1)])) = H11 at s511
    rw [decide_eq_true (show d + l - 1 ≤ d + l - 1 by omega), decide_eq_false (show ¬ d + l - 1 ≤ d + l - 1 - 1 by omega)]
    refine ⟨by show 4 ≤ sizeLine; decide, fun g ng => ?_⟩
    have s12 := same_new (o := .lst [.int (d + l - 1), .bl (decide (d + l - 1 ≤ w)), .bl true, .bl false]) ng
    have hg : (upd H11 g (.lst [.int (d + l - 1), .bl (decide (d + l - 1 ≤ w)), .bl true, .bl false])) g = _ := upd_same
    have s512 := s511.trans s12
    generalize upd H11 g (.lst [.int (d + l - 1), .bl (decide (d + l - 1 ≤ w)), .bl true, .bl false]) = H12 at s12 hg s512
    have T12 := T5.same s512
    -- if not same(got, [need, times[2] >= need, True, False])
    refine ⟨.ref g, rfl, .int (d + l - 1), rfl, .ref a, rfl, T12.ix 2 rfl ?_⟩
    refine ⟨.int (d + l - 1), rfl, _, _, rfl, rfl, by show 4 ≤ sizeLine; decide, fun u nu => ?_⟩
    have s13 := same_new (o := .lst [.int (d + l - 1), .bl (decide (d + l - 1 ≤ w)), .bl true, .bl false]) nu
    refine ⟨.ref g, .ref u, rfl, eqv_lst (n := 1) (s13 _ _ hg) upd_same (eqv_refl rfl) (by show 4 ≤ 1000; decide), fun H14 s14 => ?_⟩
    refine ⟨_, rfl, ?_⟩
    have s514 := s512.trans (s13.trans s14)
    have T14 := T5.same s514
    have U14 := U5.same s514
    have b14 := b5.same s514
    clear s14 s13 nu s512 s12 hg T12 s511 s11 s10 s9 np6 np5 np4 s58 s8 s7 s6 np3 np2 np1 ng
    -- the laps
    refine ⟨4, rfl, by decide, by decide, ?_⟩
    refine for_range (n := 4) (fun i σ' H' => (∃ y4 y5 y6 y7 y8 y9 y10 y11 y12 y13 y14, σ' = [some (.ref t), some (.ref a), some (.ref b), some (.int (d + l - 1)), y4, y5, y6, y7, y8, y9, y10, y11, y12, y13, y14]) ∧ Box H' t (3 + 8 * i) ∧ Tm H' a d l w ∧ Tm H' b d l w)
      ⟨⟨_, _, _, _, _, _, _, _, _, _, _, rfl⟩, b14, T14, U14⟩ (fun i σ' H' hi pv => ?_) (fun σ' H' pv => ?_)
    · obtain ⟨⟨y4, y5, y6, y7, y8, y9, y10, y11, y12, y13, y14, rfl⟩, bb, TT, UU⟩ := pv
      clear b14 T14 U14 s514 b5 T5 U5 hA5 s5
      -- end, out, moment
      refine ⟨.ref t, rfl, ?_⟩
      refine ⟨.ref t, rfl, t, 300, _, rfl, bb, by omega, by decide, by decide, fun H1 x1 k1 b1 x10 x11 => ?_⟩
      refine ⟨.ref t, rfl, t, 30, _, rfl, b1, by omega, by decide, by decide, fun H2 x2 k2 b2 x20 x21 => ?_⟩
      refine ⟨by show 2 ≤ sizeLine; decide, fun g ng => ?_⟩
      have hgt := b2.ne ng
      refine ⟨t, g, _, [.int x1, .int x2], rfl, box_mut b2 hgt, by omega, upd_same, hgt, by show 0 < 2; decide, by show 2 ≤ 1000; decide, fun H3 x k3 b3 hx => ?_⟩
      have k13 : Keep t H' H3 := (k1.trans k2).trans ((Keep.of (same_new ng)).trans k3)
      have hxi : ∃ z : Int, x = .int z ∧ 0 ≤ z ∧ z < 300 := by
        rcases List.mem_cons.mp hx with e | hx
        · exact ⟨x1, e, x10, by omega⟩
        · rcases List.mem_cons.mp hx with e | hx
          · exact ⟨x2, e, x20, by omega⟩
          · cases hx
      obtain ⟨e, rfl, e0, e1⟩ := hxi
      refine ⟨.ref t, rfl, t, 200, _, rfl, b3, by omega, by decide, by decide, fun H4 out k4 b4 out0 out1 => ?_⟩
      refine ⟨.ref t, rfl, t, 200, _, rfl, b4, by omega, by decide, by decide, fun H5 mo k5 b5 mo0 mo1 => ?_⟩
      refine ⟨_, _, _, rfl, ?_⟩
      have k15 := k13.trans (k4.trans k5)
      have Ta := TT.keep k15 hat
      have Tb := UU.keep k15 hbt
      clear k15 k5 k4 k13 k3 k2 k1 b4 b3 b2 b1 hx ng
      -- last, first
      refine ⟨.ref a, rfl, .int e, rfl, a, d, l, w, e, rfl, Ta, e0, by omega, fun H6 s6 => ?_⟩
      refine ⟨.ref a, rfl, .int e, rfl, a, d, l, w, e, rfl, Ta.same s6, e0, by omega, fun H7 s7 => ?_⟩
      refine ⟨_, _, rfl, ?_⟩
      have Tc := Ta.same (s6.trans s7)
      have Td := Tb.same (s6.trans s7)
      have bx := b5.same (s6.trans s7)
      clear s6 s7 Ta Tb b5 bb TT UU
      -- got
      refine ⟨.ref a, rfl, .int e, rfl, a, d, l, w, e, rfl, Tc, ?_⟩
      refine ⟨.ref b, rfl, .int e, rfl, b, d, l, w, e, rfl, Td, ?_⟩
      refine ⟨.ref a, rfl, .int mo, rfl, .int e, rfl, a, d, l, w, mo, e, rfl, Tc, ?_⟩
      refine ⟨by show 3 ≤ sizeLine; decide, fun g ng => ?_⟩
      have sg := same_new (o := .lst [vO (showBy d l e), vO (closeBy d l e), .bl (inTime d l mo e)]) ng
      have hg : (upd H7 g (.lst [vO (showBy d l e), vO (closeBy d l e), .bl (inTime d l mo e)])) g = _ := upd_same
      generalize upd H7 g (.lst [vO (showBy d l e), vO (closeBy d l e), .bl (inTime d l mo e)]) = H8 at sg hg
      -- due, behind it a word
      refine ⟨fun σ' H' => ∃ (g u : Addr) (xs : List V) (y12 y13 y14 : Option V), σ' = [some (.ref t), some (.ref a), some (.ref b), some (.int (d + l - 1)), some (.ref g), some (.int (0 + (i : Int))), some (.int e), some (.int out), some (.int mo), some (vO (showBy d l e)), some (vO (closeBy d l e)), some (.ref u), y12, y13, y14] ∧
        Lap H7 H' t g u xs ∧ Same H7 H' ∧ xs.length ≤ 3, ?_, fun σ2 H9 hm2 => ?_⟩
      · refine ⟨_, rfl, _, rfl, ?_⟩
        have fin : ∀ (bo : Bool), bo = inTime d l mo e → ∀ u : Addr, H8 u = none → Lap H7 (upd H8 u (.lst [vO (showBy d l e), vO (closeBy d l e), .bl bo])) t g u [vO (showBy d l e), vO (closeBy d l e), .bl (inTime d l mo e)] := by
          intro bo ebo u nu
          subst ebo
          have sc : [vO (showBy d l e), vO (closeBy d l e), V.bl (inTime d l mo e)].all scalB = true := by
            cases showBy d l e <;> cases closeBy d l e <;> rfl
          exact ⟨Keep.of (sg.trans (same_new nu)), ng, sg.free nu, ne_of_none hg nu, (same_new nu) _ _ hg, upd_same, sc, by show 3 ≤ 100; decide⟩
        refine ⟨_, rfl, rfl, _, rfl, ?_⟩
        cases hf : closeBy d l e with
        | none =>
          refine ⟨by show 3 ≤ sizeLine; decide, fun u nu => ?_⟩
          rw [hf] at fin
          exact ⟨g, u, _, _, _, _, rfl, fin false (by unfold inTime; rw [hf]) u nu, sg.trans (same_new nu), by show 3 ≤ 3; decide⟩
        | some x =>
          refine ⟨.int mo, rfl, .int x, rfl, _, _, rfl, rfl, ?_⟩
          refine ⟨by show 3 ≤ sizeLine; decide, fun u nu => ?_⟩
          rw [hf] at fin
          exact ⟨g, u, _, _, _, _, rfl, fin (decide (mo ≤ x)) (by unfold inTime; rw [hf]) u nu, sg.trans (same_new nu), by show 3 ≤ 3; decide⟩
      · obtain ⟨g, u, xs, y12, y13, y14, rfl, L, sL, lx⟩ := hm2
        -- if first is not None, behind it a word
        refine ⟨fun σ' H' => ∃ (g u : Addr) (xs : List V) (y12 y13 y14 : Option V), σ' = [some (.ref t), some (.ref a), some (.ref b), some (.int (d + l - 1)), some (.ref g), some (.int (0 + (i : Int))), some (.int e), some (.int out), some (.int mo), some (vO (showBy d l e)), some (vO (closeBy d l e)), some (.ref u), y12, y13, y14] ∧
          Lap H7 H' t g u xs ∧ Same H7 H' ∧ xs.length ≤ 5, ?_, fun σ2 H10 hm2 => ?_⟩
        · refine ⟨_, rfl, rfl, _, rfl, ?_⟩
          cases hf : closeBy d l e with
          | none => exact ⟨g, u, xs, y12, y13, y14, rfl, L, sL, by omega⟩
          | some x =>
            have i1 : inTime d l x e = true := by
              unfold inTime
              rw [hf]
              exact decide_eq_true (Int.le_refl x)
            have i2 : inTime d l (x + 1) e = false := by
              unfold inTime
              rw [hf]
              exact decide_eq_false (by omega)
            refine ⟨.ref g, rfl, ?_⟩
            refine ⟨.ref b, rfl, .int x, rfl, .int e, rfl, b, d, l, w, x, e, rfl, Td.same sL, ?_⟩
            refine ⟨.ref a, rfl, .int x, rfl, x, 1, rfl, rfl, .int e, rfl, a, d, l, w, x + 1, e, rfl, Tc.same sL, ?_⟩
            rw [i1, i2]
            refine ⟨by show 2 ≤ sizeLine; decide, fun p np => ?_⟩
            have s1 := same_new (o := .lst [.bl true, .bl false]) np
            refine ⟨g, p, xs, _, rfl, rfl, s1 _ _ L.hg, upd_same, small100' (by show xs.length + 2 ≤ 100000; omega), fun g2 ng2 => ?_⟩
            have s2 := same_new (o := .lst (xs ++ [.bl true, .bl false])) ng2
            refine ⟨.ref u, rfl, by show 2 ≤ sizeLine; decide, fun p2 np2 => ?_⟩
            have s3 := same_new (o := .lst [.bl true, .bl false]) np2
            refine ⟨u, p2, xs, _, rfl, rfl, s3 _ _ (s2 _ _ (s1 _ _ L.hu)), upd_same, small100' (by show xs.length + 2 ≤ 100000; omega), fun u2 nu2 => ?_⟩
            have s4 := same_new (o := .lst (xs ++ [.bl true, .bl false])) nu2
            have st := sL.trans (s1.trans (s2.trans (s3.trans s4)))
            have hg2 := s3 _ _ (upd_same (H := upd H9 p (.lst [.bl true, .bl false])) (a := g2) (o := .lst (xs ++ [.bl true, .bl false])))
            refine ⟨g2, u2, xs ++ [.bl true, .bl false], _, _, _, rfl, ⟨Keep.of st, (sL.trans s1).free ng2, (sL.trans (s1.trans (s2.trans s3))).free nu2, ne_of_none hg2 nu2, s4 _ _ hg2, upd_same, ?_, ?_⟩, st, ?_⟩
            · rw [List.all_append, L.sc]
              rfl
            · rw [List.length_append]
              show xs.length + 2 ≤ 100
              omega
            · rw [List.length_append]
              show xs.length + 2 ≤ 5
              omega
        · clear L sL lx xs g u y12 y13 y14
          obtain ⟨g, u, xs, y12, y13, y14, rfl, L, sL, lx⟩ := hm2
          have Te := Tc.same sL
          have Tf := Td.same sL
          obtain ⟨li0, li1⟩ := leastIn_in hd0 hl0 out0
          -- least
          refine ⟨.ref a, rfl, .int out, rfl, a, d, l, w, out, rfl, Te, ?_⟩
          -- got
          refine ⟨.ref g, rfl, ?_⟩
          refine ⟨.ref b, rfl, .int out, rfl, b, d, l, w, out, rfl, Tf, ?_⟩
          refine ⟨.ref a, rfl, _, rfl, .int out, rfl, a, d, l, w, leastIn d l out, out, rfl, Te, ?_⟩
          refine ⟨.ref a, rfl, _, rfl, _, _, rfl, rfl, .int out, rfl, a, d, l, w, leastIn d l out - 1, out, rfl, Te, ?_⟩
          generalize hle : leastIn d l out = le at li0 li1
          rw [decide_eq_true (Int.le_refl le), decide_eq_false (show ¬ le ≤ le - 1 by omega)]
          refine ⟨by show 3 ≤ sizeLine; decide, fun p np => ?_⟩
          have s1 := same_new (o := .lst [.int le, .bl true, .bl false]) np
          refine ⟨g, p, xs, _, rfl, rfl, s1 _ _ L.hg, upd_same, small100' (by show xs.length + 3 ≤ 100000; omega), fun g2 ng2 => ?_⟩
          have s2 := same_new (o := .lst (xs ++ [.int le, .bl true, .bl false])) ng2
          refine ⟨.ref u, rfl, _, rfl, by show 3 ≤ sizeLine; decide, fun p2 np2 => ?_⟩
          have s3 := same_new (o := .lst [.int le, .bl true, .bl false]) np2
          refine ⟨u, p2, xs, _, rfl, rfl, s3 _ _ (s2 _ _ (s1 _ _ L.hu)), upd_same, small100' (by show xs.length + 3 ≤ 100000; omega), fun u2 nu2 => ?_⟩
          have s4 := same_new (o := .lst (xs ++ [.int le, .bl true, .bl false])) nu2
          have st := sL.trans (s1.trans (s2.trans (s3.trans s4)))
          have hg2 := s3 _ _ (upd_same (H := upd H10 p (.lst [.int le, .bl true, .bl false])) (a := g2) (o := .lst (xs ++ [.int le, .bl true, .bl false])))
          have L2' : Lap H7 (upd (upd (upd (upd H10 p (.lst [.int le, .bl true, .bl false])) g2 (.lst (xs ++ [.int le, .bl true, .bl false]))) p2 (.lst [.int le, .bl true, .bl false])) u2 (.lst (xs ++ [.int le, .bl true, .bl false]))) t g2 u2 (xs ++ [.int le, .bl true, .bl false]) := by
            refine ⟨Keep.of st, (sL.trans s1).free ng2, (sL.trans (s1.trans (s2.trans s3))).free nu2, ne_of_none hg2 nu2, s4 _ _ hg2, upd_same, ?_, ?_⟩
            · rw [List.all_append, L.sc]
              rfl
            · rw [List.length_append]
              show xs.length + 3 ≤ 100
              omega
          have lx2 : (xs ++ [V.int le, .bl true, .bl false]).length ≤ 8 := by
            rw [List.length_append]
            show xs.length + 3 ≤ 8
            omega
          have bst := bx.same st
          have hgt := bx.ne L2'.ng
          have hut := bx.ne L2'.nu
          generalize upd (upd (upd (upd H10 p (.lst [.int le, .bl true, .bl false])) g2 (.lst (xs ++ [.int le, .bl true, .bl false]))) p2 (.lst [.int le, .bl true, .bl false])) u2 (.lst (xs ++ [.int le, .bl true, .bl false])) = H11 at st L2' bst
          generalize xs ++ [V.int le, .bl true, .bl false] = zs at L2' lx2
          clear s4 s3 s2 s1 nu2 np2 ng2 np hg2 Te Tf L lx sL
          -- for in in (least, least + take(tin, 40), end)
          refine ⟨_, rfl, _, rfl, ?_⟩
          refine ⟨.ref t, rfl, t, 40, _, rfl, bst, by omega, by decide, by decide, fun H12 r k12 b12 r0 r1' => ?_⟩
          refine ⟨_, _, rfl, rfl, _, rfl, by show 3 ≤ sizeLine; decide, fun p np => ?_⟩
          refine ⟨p, rfl, ⟨_, SqT.of upd_same⟩, ?_⟩
          have s13 := same_new (o := .tup [.int le, .int (le + r), .int e]) np
          have k13 : Keep t H11 (upd H12 p (.tup [.int le, .int (le + r), .int e])) := k12.trans (Keep.of s13)
          have L13 : Lap H7 (upd H12 p (.tup [.int le, .int (le + r), .int e])) t g2 u2 zs := ⟨L2'.sm.trans k13, L2'.ng, L2'.nu, L2'.ne, k13 _ _ hgt L2'.hg, k13 _ _ hut L2'.hu, L2'.sc, L2'.len⟩
          have b13 := b12.same s13
          refine for_tup (xs := [.int le, .int (le + r), .int e]) (fun j σ' H' => ∃ (xs : List V) (y13 y14 : Option V), σ' = [some (.ref t), some (.ref a), some (.ref b), some (.int (d + l - 1)), some (.ref g2), some (.int (0 + (i : Int))), some (.int e), some (.int out), some (.int mo), some (vO (showBy d l e)), some (vO (closeBy d l e)), some (.ref u2), some (.int le), y13, y14] ∧
            Lap H7 H' t g2 u2 xs ∧ xs.length ≤ 8 + j ∧ H' p = some (.tup [.int le, .int (le + r), .int e]) ∧ Box H' t (3 + 8 * (i + 1))) ?_ (fun j σ' H' _ pv => ?_) (fun j x σ' H' hx pv => ?_) (fun σ' H' pv => ?_)
          · exact ⟨zs, _, _, rfl, L13, by omega, upd_same, b13.le (by omega)⟩
          · obtain ⟨_, _, _, _, _, _, h, _⟩ := pv
            exact SqT.of h
          · obtain ⟨xs, y13, y14, rfl, L, lx, hp, bj⟩ := pv
            have hj : j < 3 := by
              have := (List.getElem?_eq_some_iff.mp hx).1
              exact this
            have hxi : ∃ z : Int, x = .int z ∧ 0 ≤ z ∧ z ≤ 100000 := by
              have hm := List.mem_of_getElem? hx
              rcases List.mem_cons.mp hm with h | hm
              · exact ⟨_, h, by omega, by omega⟩
              · rcases List.mem_cons.mp hm with h | hm
                · exact ⟨_, h, by omega, by omega⟩
                · rcases List.mem_cons.mp hm with h | hm
                  · exact ⟨_, h, by omega, by omega⟩
                  · cases hm
            obtain ⟨z, rfl, z0, z1⟩ := hxi
            -- by = close_by(times, in)
            refine ⟨.ref a, rfl, .int z, rfl, a, d, l, w, z, rfl, Tc.keep L.sm hat, z0, z1, fun H14 s14 => ?_⟩
            have La := L.same s14
            have hp14 := s14 _ _ hp
            have b14 := bj.same s14
            -- got.append(go_by(times, in, out))
            refine ⟨.ref g2, rfl, .inl ⟨rfl, _, SqL.of La.hg⟩, ?_⟩
            refine ⟨.ref a, rfl, .int z, rfl, .int out, rfl, a, d, l, w, z, out, rfl, Tc.keep La.sm hat, ?_⟩
            refine ⟨g2, xs, _, rfl, rfl, La.hg, small100 (by omega), ?_⟩
            have hu15 : (upd H14 g2 (.lst (xs ++ [vO (goBy d l z out)]))) u2 = some (.lst xs) := by
              rw [upd_ne La.ne.symm]
              exact La.hu
            have k15 : Keep t H7 (upd H14 g2 (.lst (xs ++ [vO (goBy d l z out)]))) := keep_mut La.sm La.ng
            -- due.append(..)
            refine ⟨.ref u2, rfl, .inl ⟨rfl, _, SqL.of hu15⟩, ?_⟩
            have hpg : p ≠ g2 := ne_of hp14 La.hg (by intro z; cases z)
            have hpu : p ≠ u2 := ne_of hp14 La.hu (by intro z; cases z)
            have fin : ∀ v : V, v = vO (goBy d l z out) → ∃ (xs' : List V) (y13 y14 : Option V), ([some (.ref t), some (.ref a), some (.ref b), some (.int (d + l - 1)), some (.ref g2), some (.int (0 + (i : Int))), some (.int e), some (.int out), some (.int mo), some (vO (showBy d l e)), some (vO (closeBy d l e)), some (.ref u2), some (.int le), some (.int z), some (vO (closeBy d l z))] : L2.St) = [some (.ref t), some (.ref a), some (.ref b), some (.int (d + l - 1)), some (.ref g2), some (.int (0 + (i : Int))), some (.int e), some (.int out), some (.int mo), some (vO (showBy d l e)), some (vO (closeBy d l e)), some (.ref u2), some (.int le), y13, y14] ∧
                Lap H7 (upd (upd H14 g2 (.lst (xs ++ [vO (goBy d l z out)]))) u2 (.lst (xs ++ [v]))) t g2 u2 xs' ∧ xs'.length ≤ 8 + (j + 1) ∧ (upd (upd H14 g2 (.lst (xs ++ [vO (goBy d l z out)]))) u2 (.lst (xs ++ [v]))) p = some (.tup [.int le, .int (le + r), .int e]) ∧
                Box (upd (upd H14 g2 (.lst (xs ++ [vO (goBy d l z out)]))) u2 (.lst (xs ++ [v]))) t (3 + 8 * (i + 1)) := by
              intro v ev
              subst ev
              refine ⟨xs ++ [vO (goBy d l z out)], _, _, rfl, ⟨keep_mut k15 La.nu, La.ng, La.nu, La.ne, ?_, upd_same, ?_, ?_⟩, ?_, ?_, box_mut (box_mut b14 hgt) hut⟩
              · rw [upd_ne La.ne]
                exact upd_same
              · rw [List.all_append, La.sc]
                cases goBy d l z out <;> rfl
              · rw [List.length_append]
                show xs.length + 1 ≤ 100
                omega
              · rw [List.length_append]
                show xs.length + 1 ≤ 8 + (j + 1)
                omega
              · rw [upd_ne hpu, upd_ne hpg]
                exact hp14
            refine ⟨_, rfl, rfl, _, rfl, ?_⟩
            have hgo : goBy d l z out = match closeBy d l z with
              | none => none
              | some x => if x < lookAt l out then some x else none := rfl
            cases hz : closeBy d l z with
            | none =>
              rw [hz] at hgo fin
              exact ⟨u2, xs, _, rfl, rfl, hu15, small100 (by omega), fin .non (by rw [hgo]; rfl)⟩
            | some y =>
              rw [hz] at hgo fin
              refine ⟨.int y, rfl, .ref a, rfl, (Tc.keep k15 hat).ix 1 rfl ?_⟩
              refine ⟨.int out, rfl, l, out, rfl, hl0, _, _, rfl, rfl, _, rfl, ?_⟩
              by_cases hlt : y < lookAt l out
              · dsimp only
                rw [decide_eq_true hlt]
                dsimp only at hgo
                rw [if_pos hlt] at hgo
                exact ⟨.int y, rfl, u2, xs, _, rfl, rfl, hu15, small100 (by omega), fin (.int y) (by rw [hgo]; rfl)⟩
              · dsimp only
                rw [decide_eq_false hlt]
                dsimp only at hgo
                rw [if_neg hlt] at hgo
                exact ⟨u2, xs, _, rfl, rfl, hu15, small100 (by omega), fin .non (by rw [hgo]; rfl)⟩
          · obtain ⟨xs, y13, y14, rfl, L, lx, hp, bj⟩ := pv
            -- if not same(got, due)
            refine ⟨.ref g2, rfl, .ref u2, rfl, .ref g2, .ref u2, rfl, eqv_lst (n := 1) L.hg L.hu (eqv_refl L.sc) (Nat.le_trans L.len (by decide)), fun H15 s15 => ?_⟩
            refine ⟨_, rfl, ?_⟩
            exact ⟨⟨_, _, _, _, _, _, _, _, _, _, _, rfl⟩, bj.same s15, (Tc.keep L.sm hat).same s15, (Td.keep L.sm hbt).same s15⟩
    · obtain ⟨⟨y4, y5, y6, y7, y8, y9, y10, y11, y12, y13, y14, rfl⟩, bb, TT, UU⟩ := pv
      exact ⟨.ref t, rfl, .ref a, rfl, t, a, d, l, w, _, rfl, bb, by decide, TT, hat, q⟩
end
end Clk
namespace Clk
open PySem PySem.Spec PyProof.Rows L2
section
variable {P : Program} {w : World} {K : PySem.W.Frag} {mg : Str → Option Value} {base : Heap}
def spLaw (K : PySem.W.Frag) : Sp := fun vs H Q _ => ∃ (a : Addr) (ns : List Int), vs = [.ref a] ∧ SqL K H a (ns.map V.int) ∧ ns.length ≤ 63 ∧ ∀ H', Q (.bl true) H'
theorem ok_law {f : Addr} {fd : FuncData} (F : Fun K "law" "law" s_law f fd)
    (C_law_by_hand_right : Cal P w K mg base 5 "_law_by_hand_right" [] spHand) (C_law_right : Cal P w K mg base 6 "_law_right" ["_law_tin"] spRight)
    (C_law_box : Cal P w K mg base 1 "_law_box" ["_law_script", "_law_k"] spBox) (C_law_cells : Cal P w K mg base 1 "_law_cells" ["_law_script", "_law_most_so"] (spCells K)) :
    FnOk P w K mg base CX0 7 f fd ["_law_script"] (spLaw K) := by
  refine F.ok sc_law (fun vs H Q E h => ?_) (fun cdv A outer s H vs Q E hr h => ?_)
  · obtain ⟨a, ns, rfl, _⟩ := h
    rfl
  · obtain ⟨a, ns, rfl, hS, hlen, q⟩ := h
    refine ⟨_, (pss_cons (ps_if (pt_not (pt_val (pe_fn0 C_law_by_hand_right hr (by rfl)))) (pss_one (ps_ret pe_bl)) pss_nil)
      (pss_one (ps_ret (pe_fn C_law_right hr (by rfl) (pa_cons (pe_fn C_law_box hr (by rfl) (pa_cons (pe_fn C_law_cells hr (by rfl) (pa_cons (pv 0) (pa_cons pe_int pa_nil))) (pa_cons pe_int pa_nil))) pa_nil))))), ?_⟩
    refine ⟨rfl, fun H1 s1 => ⟨_, rfl, ?_⟩⟩
    refine ⟨.ref a, rfl, a, ns, rfl, s1.seq hS, hlen, fun H2 c z s2 hc => ?_⟩
    refine ⟨c, z, rfl, hc, fun H3 t s3 hb => ?_⟩
    exact ⟨t, rfl, hb, q⟩
end
/-! ### what the top has written -/
theorem all_mk {l : PySem.W.OpenLaw} {w : World} {K : PySem.W.Frag} {h : Heap} {mg : Str → Option Value} {fa f1 f2 f3 f4 f5 f6 f7 f8 f9 f10 f11 f12 f13 f14 f15 f16 f17 f18 f19 f20 f21 f22 f23 f24 f25 f26 f27 : Addr} (X : K.In h) (G : h.Ns mainGlobals mg) (hfa : mg "law" = some (.ref fa))
    {od1 an1 : Option Addr} {sl1 : Array (Option Value)} {oc1 kV1 dc1 pm1 cd1 ct1 : Value}
    (a1 : PySem.W.nsIn K mainGlobals "look_at" = some (some (.ref f1))) (l1 : K.lookup f1 = some ⟨oc1, od1, .func (PySem.W.fnOf "look_at" "look_at" (defArgs s_look_at) (defBody s_look_at) (defScope s_look_at) .none kV1 dc1 pm1 an1 cd1 ct1), sl1⟩) (c1 : PySem.W.codeIn K cd1 "look_at" = true) (k1 : PySem.W.keepIn K (.ref f1) = true)
    {od2 an2 : Option Addr} {sl2 : Array (Option Value)} {oc2 kV2 dc2 pm2 cd2 ct2 : Value}
    (a2 : PySem.W.nsIn K mainGlobals "look_by" = some (some (.ref f2))) (l2 : K.lookup f2 = some ⟨oc2, od2, .func (PySem.W.fnOf "look_by" "look_by" (defArgs s_look_by) (defBody s_look_by) (defScope s_look_by) .none kV2 dc2 pm2 an2 cd2 ct2), sl2⟩) (c2 : PySem.W.codeIn K cd2 "look_by" = true) (k2 : PySem.W.keepIn K (.ref f2) = true)
    {od3 an3 : Option Addr} {sl3 : Array (Option Value)} {oc3 kV3 dc3 pm3 cd3 ct3 : Value}
    (a3 : PySem.W.nsIn K mainGlobals "least_wait" = some (some (.ref f3))) (l3 : K.lookup f3 = some ⟨oc3, od3, .func (PySem.W.fnOf "least_wait" "least_wait" (defArgs s_least_wait) (defBody s_least_wait) (defScope s_least_wait) .none kV3 dc3 pm3 an3 cd3 ct3), sl3⟩) (c3 : PySem.W.codeIn K cd3 "least_wait" = true) (k3 : PySem.W.keepIn K (.ref f3) = true)
    {od4 an4 : Option Addr} {sl4 : Array (Option Value)} {oc4 kV4 dc4 pm4 cd4 ct4 : Value}
    (a4 : PySem.W.nsIn K mainGlobals "enough_wait" = some (some (.ref f4))) (l4 : K.lookup f4 = some ⟨oc4, od4, .func (PySem.W.fnOf "enough_wait" "enough_wait" (defArgs s_enough_wait) (defBody s_enough_wait) (defScope s_enough_wait) .none kV4 dc4 pm4 an4 cd4 ct4), sl4⟩) (c4 : PySem.W.codeIn K cd4 "enough_wait" = true) (k4 : PySem.W.keepIn K (.ref f4) = true)
    {od5 an5 : Option Addr} {sl5 : Array (Option Value)} {oc5 kV5 dc5 pm5 cd5 ct5 : Value}
    (a5 : PySem.W.nsIn K mainGlobals "show_by" = some (some (.ref f5))) (l5 : K.lookup f5 = some ⟨oc5, od5, .func (PySem.W.fnOf "show_by" "show_by" (defArgs s_show_by) (defBody s_show_by) (defScope s_show_by) .none kV5 dc5 pm5 an5 cd5 ct5), sl5⟩) (c5 : PySem.W.codeIn K cd5 "show_by" = true) (k5 : PySem.W.keepIn K (.ref f5) = true)
    {od6 an6 : Option Addr} {sl6 : Array (Option Value)} {oc6 kV6 dc6 pm6 cd6 ct6 : Value}
    (a6 : PySem.W.nsIn K mainGlobals "close_by" = some (some (.ref f6))) (l6 : K.lookup f6 = some ⟨oc6, od6, .func (PySem.W.fnOf "close_by" "close_by" (defArgs s_close_by) (defBody s_close_by) (defScope s_close_by) .none kV6 dc6 pm6 an6 cd6 ct6), sl6⟩) (c6 : PySem.W.codeIn K cd6 "close_by" = true) (k6 : PySem.W.keepIn K (.ref f6) = true)
    {od7 an7 : Option Addr} {sl7 : Array (Option Value)} {oc7 kV7 dc7 pm7 cd7 ct7 : Value}
    (a7 : PySem.W.nsIn K mainGlobals "in_time" = some (some (.ref f7))) (l7 : K.lookup f7 = some ⟨oc7, od7, .func (PySem.W.fnOf "in_time" "in_time" (defArgs s_in_time) (defBody s_in_time) (defScope s_in_time) .none kV7 dc7 pm7 an7 cd7 ct7), sl7⟩) (c7 : PySem.W.codeIn K cd7 "in_time" = true) (k7 : PySem.W.keepIn K (.ref f7) = true)
    {od8 an8 : Option Addr} {sl8 : Array (Option Value)} {oc8 kV8 dc8 pm8 cd8 ct8 : Value}
    (a8 : PySem.W.nsIn K mainGlobals "least_in_end" = some (some (.ref f8))) (l8 : K.lookup f8 = some ⟨oc8, od8, .func (PySem.W.fnOf "least_in_end" "least_in_end" (defArgs s_least_in_end) (defBody s_least_in_end) (defScope s_least_in_end) .none kV8 dc8 pm8 an8 cd8 ct8), sl8⟩) (c8 : PySem.W.codeIn K cd8 "least_in_end" = true) (k8 : PySem.W.keepIn K (.ref f8) = true)
    {od9 an9 : Option Addr} {sl9 : Array (Option Value)} {oc9 kV9 dc9 pm9 cd9 ct9 : Value}
    (a9 : PySem.W.nsIn K mainGlobals "enough_gap" = some (some (.ref f9))) (l9 : K.lookup f9 = some ⟨oc9, od9, .func (PySem.W.fnOf "enough_gap" "enough_gap" (defArgs s_enough_gap) (defBody s_enough_gap) (defScope s_enough_gap) .none kV9 dc9 pm9 an9 cd9 ct9), sl9⟩) (c9 : PySem.W.codeIn K cd9 "enough_gap" = true) (k9 : PySem.W.keepIn K (.ref f9) = true)
    {od10 an10 : Option Addr} {sl10 : Array (Option Value)} {oc10 kV10 dc10 pm10 cd10 ct10 : Value}
    (a10 : PySem.W.nsIn K mainGlobals "go_by" = some (some (.ref f10))) (l10 : K.lookup f10 = some ⟨oc10, od10, .func (PySem.W.fnOf "go_by" "go_by" (defArgs s_go_by) (defBody s_go_by) (defScope s_go_by) .none kV10 dc10 pm10 an10 cd10 ct10), sl10⟩) (c10 : PySem.W.codeIn K cd10 "go_by" = true) (k10 : PySem.W.keepIn K (.ref f10) = true)
    {od11 an11 : Option Addr} {sl11 : Array (Option Value)} {oc11 kV11 dc11 pm11 cd11 ct11 : Value}
    (a11 : PySem.W.nsIn K mainGlobals "least_ends" = some (some (.ref f11))) (l11 : K.lookup f11 = some ⟨oc11, od11, .func (PySem.W.fnOf "least_ends" "least_ends" (defArgs s_least_ends) (defBody s_least_ends) (defScope s_least_ends) .none kV11 dc11 pm11 an11 cd11 ct11), sl11⟩) (c11 : PySem.W.codeIn K cd11 "least_ends" = true) (k11 : PySem.W.keepIn K (.ref f11) = true)
    {od12 an12 : Option Addr} {sl12 : Array (Option Value)} {oc12 kV12 dc12 pm12 cd12 ct12 : Value}
    (a12 : PySem.W.nsIn K mainGlobals "begin_by" = some (some (.ref f12))) (l12 : K.lookup f12 = some ⟨oc12, od12, .func (PySem.W.fnOf "begin_by" "begin_by" (defArgs s_begin_by) (defBody s_begin_by) (defScope s_begin_by) .none kV12 dc12 pm12 an12 cd12 ct12), sl12⟩) (c12 : PySem.W.codeIn K cd12 "begin_by" = true) (k12 : PySem.W.keepIn K (.ref f12) = true)
    {od13 an13 : Option Addr} {sl13 : Array (Option Value)} {oc13 kV13 dc13 pm13 cd13 ct13 : Value}
    (a13 : PySem.W.nsIn K mainGlobals "settled_by" = some (some (.ref f13))) (l13 : K.lookup f13 = some ⟨oc13, od13, .func (PySem.W.fnOf "settled_by" "settled_by" (defArgs s_settled_by) (defBody s_settled_by) (defScope s_settled_by) .none kV13 dc13 pm13 an13 cd13 ct13), sl13⟩) (c13 : PySem.W.codeIn K cd13 "settled_by" = true) (k13 : PySem.W.keepIn K (.ref f13) = true)
    {od14 an14 : Option Addr} {sl14 : Array (Option Value)} {oc14 kV14 dc14 pm14 cd14 ct14 : Value}
    (a14 : PySem.W.nsIn K mainGlobals "_law_box" = some (some (.ref f14))) (l14 : K.lookup f14 = some ⟨oc14, od14, .func (PySem.W.fnOf "_law_box" "_law_box" (defArgs s_law_box) (defBody s_law_box) (defScope s_law_box) .none kV14 dc14 pm14 an14 cd14 ct14), sl14⟩) (c14 : PySem.W.codeIn K cd14 "_law_box" = true) (k14 : PySem.W.keepIn K (.ref f14) = true)
    {od15 an15 : Option Addr} {sl15 : Array (Option Value)} {oc15 kV15 dc15 pm15 cd15 ct15 : Value}
    (a15 : PySem.W.nsIn K mainGlobals "_law_take" = some (some (.ref f15))) (l15 : K.lookup f15 = some ⟨oc15, od15, .func (PySem.W.fnOf "_law_take" "_law_take" (defArgs s_law_take) (defBody s_law_take) (defScope s_law_take) .none kV15 dc15 pm15 an15 cd15 ct15), sl15⟩) (c15 : PySem.W.codeIn K cd15 "_law_take" = true) (k15 : PySem.W.keepIn K (.ref f15) = true)
    {od16 an16 : Option Addr} {sl16 : Array (Option Value)} {oc16 kV16 dc16 pm16 cd16 ct16 : Value}
    (a16 : PySem.W.nsIn K mainGlobals "_law_cells" = some (some (.ref f16))) (l16 : K.lookup f16 = some ⟨oc16, od16, .func (PySem.W.fnOf "_law_cells" "_law_cells" (defArgs s_law_cells) (defBody s_law_cells) (defScope s_law_cells) .none kV16 dc16 pm16 an16 cd16 ct16), sl16⟩) (c16 : PySem.W.codeIn K cd16 "_law_cells" = true) (k16 : PySem.W.keepIn K (.ref f16) = true)
    {od17 an17 : Option Addr} {sl17 : Array (Option Value)} {oc17 kV17 dc17 pm17 cd17 ct17 : Value}
    (a17 : PySem.W.nsIn K mainGlobals "_law_of" = some (some (.ref f17))) (l17 : K.lookup f17 = some ⟨oc17, od17, .func (PySem.W.fnOf "_law_of" "_law_of" (defArgs s_law_of) (defBody s_law_of) (defScope s_law_of) .none kV17 dc17 pm17 an17 cd17 ct17), sl17⟩) (c17 : PySem.W.codeIn K cd17 "_law_of" = true) (k17 : PySem.W.keepIn K (.ref f17) = true)
    {od18 an18 : Option Addr} {sl18 : Array (Option Value)} {oc18 kV18 dc18 pm18 cd18 ct18 : Value}
    (a18 : PySem.W.nsIn K mainGlobals "_law_same" = some (some (.ref f18))) (l18 : K.lookup f18 = some ⟨oc18, od18, .func (PySem.W.fnOf "_law_same" "_law_same" (defArgs s_law_same) (defBody s_law_same) (defScope s_law_same) .none kV18 dc18 pm18 an18 cd18 ct18), sl18⟩) (c18 : PySem.W.codeIn K cd18 "_law_same" = true) (k18 : PySem.W.keepIn K (.ref f18) = true)
    {od19 an19 : Option Addr} {sl19 : Array (Option Value)} {oc19 kV19 dc19 pm19 cd19 ct19 : Value}
    (a19 : PySem.W.nsIn K mainGlobals "_law_at" = some (some (.ref f19))) (l19 : K.lookup f19 = some ⟨oc19, od19, .func (PySem.W.fnOf "_law_at" "_law_at" (defArgs s_law_at) (defBody s_law_at) (defScope s_law_at) .none kV19 dc19 pm19 an19 cd19 ct19), sl19⟩) (c19 : PySem.W.codeIn K cd19 "_law_at" = true) (k19 : PySem.W.keepIn K (.ref f19) = true)
    {od20 an20 : Option Addr} {sl20 : Array (Option Value)} {oc20 kV20 dc20 pm20 cd20 ct20 : Value}
    (a20 : PySem.W.nsIn K mainGlobals "_law_show_by" = some (some (.ref f20))) (l20 : K.lookup f20 = some ⟨oc20, od20, .func (PySem.W.fnOf "_law_show_by" "_law_show_by" (defArgs s_law_show_by) (defBody s_law_show_by) (defScope s_law_show_by) .none kV20 dc20 pm20 an20 cd20 ct20), sl20⟩) (c20 : PySem.W.codeIn K cd20 "_law_show_by" = true) (k20 : PySem.W.keepIn K (.ref f20) = true)
    {od21 an21 : Option Addr} {sl21 : Array (Option Value)} {oc21 kV21 dc21 pm21 cd21 ct21 : Value}
    (a21 : PySem.W.nsIn K mainGlobals "_law_close_by" = some (some (.ref f21))) (l21 : K.lookup f21 = some ⟨oc21, od21, .func (PySem.W.fnOf "_law_close_by" "_law_close_by" (defArgs s_law_close_by) (defBody s_law_close_by) (defScope s_law_close_by) .none kV21 dc21 pm21 an21 cd21 ct21), sl21⟩) (c21 : PySem.W.codeIn K cd21 "_law_close_by" = true) (k21 : PySem.W.keepIn K (.ref f21) = true)
    {od22 an22 : Option Addr} {sl22 : Array (Option Value)} {oc22 kV22 dc22 pm22 cd22 ct22 : Value}
    (a22 : PySem.W.nsIn K mainGlobals "_law_in_end" = some (some (.ref f22))) (l22 : K.lookup f22 = some ⟨oc22, od22, .func (PySem.W.fnOf "_law_in_end" "_law_in_end" (defArgs s_law_in_end) (defBody s_law_in_end) (defScope s_law_in_end) .none kV22 dc22 pm22 an22 cd22 ct22), sl22⟩) (c22 : PySem.W.codeIn K cd22 "_law_in_end" = true) (k22 : PySem.W.keepIn K (.ref f22) = true)
    {od23 an23 : Option Addr} {sl23 : Array (Option Value)} {oc23 kV23 dc23 pm23 cd23 ct23 : Value}
    (a23 : PySem.W.nsIn K mainGlobals "_law_by_hand_right" = some (some (.ref f23))) (l23 : K.lookup f23 = some ⟨oc23, od23, .func (PySem.W.fnOf "_law_by_hand_right" "_law_by_hand_right" (defArgs s_law_by_hand_right) (defBody s_law_by_hand_right) (defScope s_law_by_hand_right) .none kV23 dc23 pm23 an23 cd23 ct23), sl23⟩) (c23 : PySem.W.codeIn K cd23 "_law_by_hand_right" = true) (k23 : PySem.W.keepIn K (.ref f23) = true)
    {od24 an24 : Option Addr} {sl24 : Array (Option Value)} {oc24 kV24 dc24 pm24 cd24 ct24 : Value}
    (a24 : PySem.W.nsIn K mainGlobals "_law_wait_needed" = some (some (.ref f24))) (l24 : K.lookup f24 = some ⟨oc24, od24, .func (PySem.W.fnOf "_law_wait_needed" "_law_wait_needed" (defArgs s_law_wait_needed) (defBody s_law_wait_needed) (defScope s_law_wait_needed) .none kV24 dc24 pm24 an24 cd24 ct24), sl24⟩) (c24 : PySem.W.codeIn K cd24 "_law_wait_needed" = true) (k24 : PySem.W.keepIn K (.ref f24) = true)
    {od25 an25 : Option Addr} {sl25 : Array (Option Value)} {oc25 kV25 dc25 pm25 cd25 ct25 : Value}
    (a25 : PySem.W.nsIn K mainGlobals "_law_right" = some (some (.ref f25))) (l25 : K.lookup f25 = some ⟨oc25, od25, .func (PySem.W.fnOf "_law_right" "_law_right" (defArgs s_law_right) (defBody s_law_right) (defScope s_law_right) .none kV25 dc25 pm25 an25 cd25 ct25), sl25⟩) (c25 : PySem.W.codeIn K cd25 "_law_right" = true) (k25 : PySem.W.keepIn K (.ref f25) = true)
    {od26 an26 : Option Addr} {sl26 : Array (Option Value)} {oc26 kV26 dc26 pm26 cd26 ct26 : Value}
    (a26 : PySem.W.nsIn K mainGlobals "_law_routes_right" = some (some (.ref f26))) (l26 : K.lookup f26 = some ⟨oc26, od26, .func (PySem.W.fnOf "_law_routes_right" "_law_routes_right" (defArgs s_law_routes_right) (defBody s_law_routes_right) (defScope s_law_routes_right) .none kV26 dc26 pm26 an26 cd26 ct26), sl26⟩) (c26 : PySem.W.codeIn K cd26 "_law_routes_right" = true) (k26 : PySem.W.keepIn K (.ref f26) = true)
    {od27 an27 : Option Addr} {sl27 : Array (Option Value)} {oc27 kV27 dc27 pm27 cd27 ct27 : Value}
    (a27 : PySem.W.nsIn K mainGlobals "law" = some (some (.ref f27))) (l27 : K.lookup f27 = some ⟨oc27, od27, .func (PySem.W.fnOf "law" "law" (defArgs s_law) (defBody s_law) (defScope s_law) .none kV27 dc27 pm27 an27 cd27 ct27), sl27⟩) (c27 : PySem.W.codeIn K cd27 "law" = true) (k27 : PySem.W.keepIn K (.ref f27) = true)
    (z1 : PySem.W.nsIn K mainGlobals "len" = some none)
    (z2 : PySem.W.nsIn K mainGlobals "abs" = some none)
    (z3 : PySem.W.nsIn K mainGlobals "all" = some none)
    (z4 : PySem.W.nsIn K mainGlobals "min" = some none)
    (z5 : PySem.W.nsIn K mainGlobals "max" = some none)
    (z6 : PySem.W.nsIn K mainGlobals "isinstance" = some none)
    (z7 : PySem.W.nsIn K mainGlobals "range" = some none)
    (z8 : PySem.W.nsIn K mainGlobals "enumerate" = some none)
    (z9 : PySem.W.nsIn K mainGlobals "zip" = some none)
    (z10 : PySem.W.nsIn K mainGlobals "list" = some none)
    (z11 : PySem.W.nsIn K mainGlobals "tuple" = some none)
    (z12 : PySem.W.nsIn K mainGlobals "bool" = some none)
    (z13 : PySem.W.nsIn K mainGlobals "str" = some none)
    (z14 : PySem.W.nsIn K mainGlobals "int" = some none)
    : ∃ fd : FuncData, (∀ (s : Shared) (v : Value), BindsTo s fd ⟨[v], []⟩ [("_law_script", v)]) ∧ ∀ base : Heap, K.In base → base.Ns mainGlobals mg → FnOk l.prog w K mg base CX0 7 fa fd ["_law_script"] (spLaw K) := by
  have e := hfa.symm.trans (PySem.W.mg_of X G a27)
  cases e
  have F_look_at := fun_mk (st := s_look_at) l1 c1 k1
  have m_look_at := PySem.W.mg_of X G a1
  have F_look_by := fun_mk (st := s_look_by) l2 c2 k2
  have m_look_by := PySem.W.mg_of X G a2
  have F_least_wait := fun_mk (st := s_least_wait) l3 c3 k3
  have m_least_wait := PySem.W.mg_of X G a3
  have F_enough_wait := fun_mk (st := s_enough_wait) l4 c4 k4
  have m_enough_wait := PySem.W.mg_of X G a4
  have F_show_by := fun_mk (st := s_show_by) l5 c5 k5
  have m_show_by := PySem.W.mg_of X G a5
  have F_close_by := fun_mk (st := s_close_by) l6 c6 k6
  have m_close_by := PySem.W.mg_of X G a6
  have F_in_time := fun_mk (st := s_in_time) l7 c7 k7
  have m_in_time := PySem.W.mg_of X G a7
  have F_least_in_end := fun_mk (st := s_least_in_end) l8 c8 k8
  have m_least_in_end := PySem.W.mg_of X G a8
  have F_enough_gap := fun_mk (st := s_enough_gap) l9 c9 k9
  have m_enough_gap := PySem.W.mg_of X G a9
  have F_go_by := fun_mk (st := s_go_by) l10 c10 k10
  have m_go_by := PySem.W.mg_of X G a10
  have F_least_ends := fun_mk (st := s_least_ends) l11 c11 k11
  have m_least_ends := PySem.W.mg_of X G a11
  have F_begin_by := fun_mk (st := s_begin_by) l12 c12 k12
  have m_begin_by := PySem.W.mg_of X G a12
  have F_settled_by := fun_mk (st := s_settled_by) l13 c13 k13
  have m_settled_by := PySem.W.mg_of X G a13
  have F_law_box := fun_mk (st := s_law_box) l14 c14 k14
  have m_law_box := PySem.W.mg_of X G a14
  have F_law_take := fun_mk (st := s_law_take) l15 c15 k15
  have m_law_take := PySem.W.mg_of X G a15
  have F_law_cells := fun_mk (st := s_law_cells) l16 c16 k16
  have m_law_cells := PySem.W.mg_of X G a16
  have F_law_of := fun_mk (st := s_law_of) l17 c17 k17
  have m_law_of := PySem.W.mg_of X G a17
  have F_law_same := fun_mk (st := s_law_same) l18 c18 k18
  have m_law_same := PySem.W.mg_of X G a18
  have F_law_at := fun_mk (st := s_law_at) l19 c19 k19
  have m_law_at := PySem.W.mg_of X G a19
  have F_law_show_by := fun_mk (st := s_law_show_by) l20 c20 k20
  have m_law_show_by := PySem.W.mg_of X G a20
  have F_law_close_by := fun_mk (st := s_law_close_by) l21 c21 k21
  have m_law_close_by := PySem.W.mg_of X G a21
  have F_law_in_end := fun_mk (st := s_law_in_end) l22 c22 k22
  have m_law_in_end := PySem.W.mg_of X G a22
  have F_law_by_hand_right := fun_mk (st := s_law_by_hand_right) l23 c23 k23
  have m_law_by_hand_right := PySem.W.mg_of X G a23
  have F_law_wait_needed := fun_mk (st := s_law_wait_needed) l24 c24 k24
  have m_law_wait_needed := PySem.W.mg_of X G a24
  have F_law_right := fun_mk (st := s_law_right) l25 c25 k25
  have m_law_right := PySem.W.mg_of X G a25
  have F_law_routes_right := fun_mk (st := s_law_routes_right) l26 c26 k26
  have m_law_routes_right := PySem.W.mg_of X G a26
  have F_law := fun_mk (st := s_law) l27 c27 k27
  have m_law := PySem.W.mg_of X G a27
  have B : Blt mg := ⟨PySem.W.mg_none_of X G z1, PySem.W.mg_none_of X G z2, PySem.W.mg_none_of X G z3, PySem.W.mg_none_of X G z4, PySem.W.mg_none_of X G z5, PySem.W.mg_none_of X G z6, PySem.W.mg_none_of X G z7, PySem.W.mg_none_of X G z8, PySem.W.mg_none_of X G z9, PySem.W.mg_none_of X G z10, PySem.W.mg_none_of X G z11, PySem.W.mg_none_of X G z12, PySem.W.mg_none_of X G z13, PySem.W.mg_none_of X G z14⟩
  refine ⟨PySem.W.fnOf "law" "law" (defArgs s_law) (defBody s_law) (defScope s_law) .none kV27 dc27 pm27 an27 cd27 ct27, fun s v => .of_eq rfl, fun base _ _ => ?_⟩
  have C_look_at := ok_look_at (P := l.prog) (w := w) (base := base) F_look_at m_look_at
  have C_look_by := ok_look_by (P := l.prog) (w := w) (base := base) F_look_by m_look_by
  have C_least_wait := ok_least_wait (P := l.prog) (w := w) (base := base) F_least_wait m_least_wait
  have C_enough_wait := ok_enough_wait F_enough_wait m_enough_wait C_least_wait
  have C_show_by := ok_show_by F_show_by m_show_by C_look_by
  have C_close_by := ok_close_by F_close_by m_close_by C_look_by C_show_by
  have C_in_time := ok_in_time F_in_time m_in_time C_close_by
  have C_least_in_end := ok_least_in_end F_least_in_end m_least_in_end C_look_at
  have C_enough_gap := ok_enough_gap F_enough_gap m_enough_gap C_least_in_end
  have C_go_by := ok_go_by F_go_by m_go_by C_look_at C_close_by
  have C_least_ends := ok_least_ends B F_least_ends m_least_ends C_least_in_end
  have C_begin_by := ok_begin_by B F_begin_by m_begin_by C_close_by
  have C_settled_by := ok_settled_by B F_settled_by m_settled_by C_look_at
  have C_law_box := ok_box (P := l.prog) (w := w) (base := base) B F_law_box m_law_box
  have C_law_take := ok_take (P := l.prog) (w := w) (base := base) B F_law_take m_law_take
  have C_law_cells := ok_cells (P := l.prog) (w := w) (base := base) B F_law_cells m_law_cells
  have C_law_of := ok_of B F_law_of m_law_of C_law_take
  have C_law_same := ok_same (P := l.prog) (w := w) (base := base) B F_law_same m_law_same 2
  have C_law_at := ok_at (P := l.prog) (w := w) (base := base) B F_law_at m_law_at
  have C_law_show_by := ok_lshow (P := l.prog) (w := w) (base := base) B F_law_show_by m_law_show_by
  have C_law_close_by := ok_lclose F_law_close_by m_law_close_by C_law_show_by
  have C_law_in_end := ok_lin F_law_in_end m_law_in_end C_law_at
  have C_law_wait_needed := ok_needed B F_law_wait_needed m_law_wait_needed C_law_at
  have C_hand := ok_hand F_law_by_hand_right m_law_by_hand_right C_least_wait C_show_by C_close_by C_least_in_end C_go_by C_least_ends C_settled_by C_in_time C_law_same
  have C_routes := ok_routes B F_law_routes_right m_law_routes_right C_law_take C_law_of C_law_at C_law_in_end C_law_close_by C_least_ends C_begin_by C_settled_by C_law_same
  have C_right := ok_right B F_law_right m_law_right C_law_take C_law_of C_law_at C_law_in_end C_law_show_by C_law_close_by C_law_wait_needed C_least_wait C_enough_wait C_show_by C_close_by C_in_time C_least_in_end C_enough_gap C_go_by C_routes C_law_same
  exact ok_law F_law C_hand C_right C_law_box C_law_cells
end Clk
open PySem PySem.W PyProof.Rows
set_option maxHeartbeats 0 in
theorem PySem.Challenge.cw_suredue_k22_whole_clocks_by_trying_holds : PySem.Challenge.rw_suredue_k22_whole_clocks_by_trying.Holds := by
  w_on; o_law; k_head; (case hw => w_witness2)
  k_fill
  refine L2.walk_of (l := PySem.Challenge.rw_suredue_k22_whole_clocks_by_trying) (n := 63) (k := 7) (x := "_law_script") (CX := fun _ => L2.CX0) (sp := fun w => Clk.spLaw _) rfl (by decide) rfl ⟨rfl, by decide, by decide⟩ (fun w h Y => PySem.W.kIn_of Y) ?F (fun _ _ a ns hl _ hS => ⟨a, ns, rfl, hS, hl, fun _ => rfl⟩) (fun _ _ _ _ _ h => h)
  case F =>
    intro w mg fa h KX G hmg
    refine' Clk.all_mk KX G hmg ?a1 ?l1 ?c1 ?k1 ?a2 ?l2 ?c2 ?k2 ?a3 ?l3 ?c3 ?k3 ?a4 ?l4 ?c4 ?k4 ?a5 ?l5 ?c5 ?k5 ?a6 ?l6 ?c6 ?k6 ?a7 ?l7 ?c7 ?k7 ?a8 ?l8 ?c8 ?k8 ?a9 ?l9 ?c9 ?k9 ?a10 ?l10 ?c10 ?k10 ?a11 ?l11 ?c11 ?k11 ?a12 ?l12 ?c12 ?k12 ?a13 ?l13 ?c13 ?k13 ?a14 ?l14 ?c14 ?k14 ?a15 ?l15 ?c15 ?k15 ?a16 ?l16 ?c16 ?k16 ?a17 ?l17 ?c17 ?k17 ?a18 ?l18 ?c18 ?k18 ?a19 ?l19 ?c19 ?k19 ?a20 ?l20 ?c20 ?k20 ?a21 ?l21 ?c21 ?k21 ?a22 ?l22 ?c22 ?k22 ?a23 ?l23 ?c23 ?k23 ?a24 ?l24 ?c24 ?k24 ?a25 ?l25 ?c25 ?k25 ?a26 ?l26 ?c26 ?k26 ?a27 ?l27 ?c27 ?k27 ?z1 ?z2 ?z3 ?z4 ?z5 ?z6 ?z7 ?z8 ?z9 ?z10 ?z11 ?z12 ?z13 ?z14
    (case a1 => k_is); (case l1 => k_is); (case c1 => k_is); (case k1 => k_is)
    (case a2 => k_is); (case l2 => k_is); (case c2 => k_is); (case k2 => k_is)
    (case a3 => k_is); (case l3 => k_is); (case c3 => k_is); (case k3 => k_is)
    (case a4 => k_is); (case l4 => k_is); (case c4 => k_is); (case k4 => k_is)
    (case a5 => k_is); (case l5 => k_is); (case c5 => k_is); (case k5 => k_is)
    (case a6 => k_is); (case l6 => k_is); (case c6 => k_is); (case k6 => k_is)
    (case a7 => k_is); (case l7 => k_is); (case c7 => k_is); (case k7 => k_is)
    (case a8 => k_is); (case l8 => k_is); (case c8 => k_is); (case k8 => k_is)
    (case a9 => k_is); (case l9 => k_is); (case c9 => k_is); (case k9 => k_is)
    (case a10 => k_is); (case l10 => k_is); (case c10 => k_is); (case k10 => k_is)
    (case a11 => k_is); (case l11 => k_is); (case c11 => k_is); (case k11 => k_is)
    (case a12 => k_is); (case l12 => k_is); (case c12 => k_is); (case k12 => k_is)
    (case a13 => k_is); (case l13 => k_is); (case c13 => k_is); (case k13 => k_is)
    (case a14 => k_is); (case l14 => k_is); (case c14 => k_is); (case k14 => k_is)
    (case a15 => k_is); (case l15 => k_is); (case c15 => k_is); (case k15 => k_is)
    (case a16 => k_is); (case l16 => k_is); (case c16 => k_is); (case k16 => k_is)
    (case a17 => k_is); (case l17 => k_is); (case c17 => k_is); (case k17 => k_is)
    (case a18 => k_is); (case l18 => k_is); (case c18 => k_is); (case k18 => k_is)
    (case a19 => k_is); (case l19 => k_is); (case c19 => k_is); (case k19 => k_is)
    (case a20 => k_is); (case l20 => k_is); (case c20 => k_is); (case k20 => k_is)
    (case a21 => k_is); (case l21 => k_is); (case c21 => k_is); (case k21 => k_is)
    (case a22 => k_is); (case l22 => k_is); (case c22 => k_is); (case k22 => k_is)
    (case a23 => k_is); (case l23 => k_is); (case c23 => k_is); (case k23 => k_is)
    (case a24 => k_is); (case l24 => k_is); (case c24 => k_is); (case k24 => k_is)
    (case a25 => k_is); (case l25 => k_is); (case c25 => k_is); (case k25 => k_is)
    (case a26 => k_is); (case l26 => k_is); (case c26 => k_is); (case k26 => k_is)
    (case a27 => k_is); (case l27 => k_is); (case c27 => k_is); (case k27 => k_is)
    (case z1 => k_is); (case z2 => k_is); (case z3 => k_is); (case z4 => k_is); (case z5 => k_is); (case z6 => k_is); (case z7 => k_is); (case z8 => k_is); (case z9 => k_is); (case z10 => k_is); (case z11 => k_is); (case z12 => k_is); (case z13 => k_is); (case z14 => k_is)
