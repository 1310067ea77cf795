import PyProof.Rows.All
import Wide.All
import OpenK.AllK
import Wide.FinOn
import HandS.ForMost
import HandS.ForExc
import HandS.Wide
import HandS.TupAny
import HandS.TupMul
import HandS.IsInst
import HandS.Style
import HandS.NoneIn
import PySem.Challenge.RW_rateflows_k55_whole_cells
import KE.GoesMore
import PyProof.MaxThree
import KE.KExcSuper
import HandS.ForSpec
import PyProof.EqAt
import PyProof.EqKinds
import PyProof.TupleCall
import Open.SpecLaws
import KE.OsGo
import KE.KExcIs
import HandS.ExcField
import HandS.ExcIs
set_option Elab.async false
set_option linter.all false
set_option maxRecDepth 100000
set_option maxHeartbeats 4000000
namespace Rf
open PySem PySem.Spec L2
/-! ### the text by places, the slots of each def -/
def topS (i : Nat) : Stmt := PySem.Challenge.pw_rateflows_k55_whole_cells.main.body.getD i (.Pass ⟨0, 0, 0, 0⟩)
abbrev s_is_in : Stmt := topS 8
abbrev n_is_in : List Str := ["value", "least", "most"]
abbrev p_is_in : List Str := ["value", "least", "most"]
theorem sc_is_in : FnScope n_is_in p_is_in (defScope s_is_in) := ⟨rfl, rfl, rfl, by decide +kernel, rfl, by decide +kernel, by decide +kernel⟩
abbrev s_is_pipe : Stmt := topS 14
abbrev n_is_pipe : List Str := ["value", "boxes"]
abbrev p_is_pipe : List Str := ["value", "boxes"]
theorem sc_is_pipe : FnScope n_is_pipe p_is_pipe (defScope s_is_pipe) := ⟨rfl, rfl, rfl, by decide +kernel, rfl, by decide +kernel, by decide +kernel⟩
abbrev s_need_flow : Stmt := topS 15
abbrev n_need_flow : List Str := ["flow", "index", "pipe"]
abbrev p_need_flow : List Str := ["flow"]
theorem sc_need_flow : FnScope n_need_flow p_need_flow (defScope s_need_flow) := ⟨rfl, rfl, rfl, by decide +kernel, rfl, by decide +kernel, by decide +kernel⟩
abbrev s_marks_in : Stmt := topS 16
abbrev n_marks_in : List Str := ["flow", "pipe"]
abbrev p_marks_in : List Str := ["flow"]
theorem sc_marks_in : FnScope n_marks_in p_marks_in (defScope s_marks_in) := ⟨rfl, rfl, rfl, by decide +kernel, rfl, by decide +kernel, by decide +kernel⟩
abbrev s_lacks : Stmt := topS 18
abbrev n_lacks : List Str := ["flow", "some", "box", "index", "one", "other", "give", "eat", "start"]
abbrev p_lacks : List Str := ["flow", "some", "box"]
theorem sc_lacks : FnScope n_lacks p_lacks (defScope s_lacks) := ⟨rfl, rfl, rfl, by decide +kernel, rfl, by decide +kernel, by decide +kernel⟩
abbrev s_behind : Stmt := topS 19
abbrev n_behind : List Str := ["flow", "some", "box", "found", "index", "one", "other", "give", "eat", "start"]
abbrev p_behind : List Str := ["flow", "some", "box"]
theorem sc_behind : FnScope n_behind p_behind (defScope s_behind) := ⟨rfl, rfl, rfl, by decide +kernel, rfl, by decide +kernel, by decide +kernel⟩
abbrev s_size_of : Stmt := topS 25
abbrev n_size_of : List Str := ["value", "deep", "found", "item", "inner"]
abbrev p_size_of : List Str := ["value", "deep"]
theorem sc_size_of : FnScope n_size_of p_size_of (defScope s_size_of) := ⟨rfl, rfl, rfl, by decide +kernel, rfl, by decide +kernel, by decide +kernel⟩
abbrev s_deep_in : Stmt := topS 26
abbrev n_deep_in : List Str := ["loop", "item"]
abbrev p_deep_in : List Str := ["loop"]
theorem sc_deep_in : FnScope n_deep_in p_deep_in (defScope s_deep_in) := ⟨rfl, rfl, rfl, by decide +kernel, rfl, by decide +kernel, by decide +kernel⟩
abbrev s_folds_of : Stmt := topS 27
abbrev n_folds_of : List Str := ["word", "best", "size", "at"]
abbrev p_folds_of : List Str := ["word"]
theorem sc_folds_of : FnScope n_folds_of p_folds_of (defScope s_folds_of) := ⟨rfl, rfl, rfl, by decide +kernel, rfl, by decide +kernel, by decide +kernel⟩
abbrev s_best_fold : Stmt := topS 28
abbrev n_best_fold : List Str := ["word", "at", "size", "best", "found", "cut", "left", "right", "part", "inner"]
abbrev p_best_fold : List Str := ["word", "at", "size", "best"]
theorem sc_best_fold : FnScope n_best_fold p_best_fold (defScope s_best_fold) := ⟨rfl, rfl, rfl, by decide +kernel, rfl, by decide +kernel, by decide +kernel⟩
abbrev s_need_short : Stmt := topS 29
abbrev n_need_short : List Str := ["word", "box"]
abbrev p_need_short : List Str := ["word"]
theorem sc_need_short : FnScope n_need_short p_need_short (defScope s_need_short) := ⟨rfl, rfl, rfl, by decide +kernel, rfl, by decide +kernel, by decide +kernel⟩
abbrev s_folded : Stmt := topS 30
abbrev n_folded : List Str := ["word"]
abbrev p_folded : List Str := ["word"]
theorem sc_folded : FnScope n_folded p_folded (defScope s_folded) := ⟨rfl, rfl, rfl, by decide +kernel, rfl, by decide +kernel, by decide +kernel⟩
abbrev s_need_room : Stmt := topS 32
abbrev n_need_room : List Str := ["flow", "room", "index", "one"]
abbrev p_need_room : List Str := ["flow", "room"]
theorem sc_need_room : FnScope n_need_room p_need_room (defScope s_need_room) := ⟨rfl, rfl, rfl, by decide +kernel, rfl, by decide +kernel, by decide +kernel⟩
abbrev s_is_step : Stmt := topS 34
abbrev n_is_step : List Str := ["value"]
abbrev p_is_step : List Str := ["value"]
theorem sc_is_step : FnScope n_is_step p_is_step (defScope s_is_step) := ⟨rfl, rfl, rfl, by decide +kernel, rfl, by decide +kernel, by decide +kernel⟩
abbrev s_loop_of : Stmt := topS 35
abbrev n_loop_of : List Str := ["code", "stack", "index", "step", "times", "body", "found"]
abbrev p_loop_of : List Str := ["code"]
theorem sc_loop_of : FnScope n_loop_of p_loop_of (defScope s_loop_of) := ⟨rfl, rfl, rfl, by decide +kernel, rfl, by decide +kernel, by decide +kernel⟩
abbrev s_walk : Stmt := topS 36
abbrev n_walk : List Str := ["code", "found", "stack", "at", "step"]
abbrev p_walk : List Str := ["code"]
theorem sc_walk : FnScope n_walk p_walk (defScope s_walk) := ⟨rfl, rfl, rfl, by decide +kernel, rfl, by decide +kernel, by decide +kernel⟩
abbrev s_Cells_init : Stmt := inClass (topS 37) 0
abbrev n_Cells_init : List Str := ["self", "flow", "room"]
abbrev p_Cells_init : List Str := ["self", "flow", "room"]
theorem sc_Cells_init : FnScope n_Cells_init p_Cells_init (defScope s_Cells_init) := ⟨rfl, rfl, rfl, by decide +kernel, rfl, by decide +kernel, by decide +kernel⟩
abbrev s_Cells_fire : Stmt := inClass (topS 37) 1
abbrev n_Cells_fire : List Str := ["self", "box", "eaten", "given", "index", "one", "other", "give", "eat", "start"]
abbrev p_Cells_fire : List Str := ["self", "box"]
theorem sc_Cells_fire : FnScope n_Cells_fire p_Cells_fire (defScope s_Cells_fire) := ⟨rfl, rfl, rfl, by decide +kernel, rfl, by decide +kernel, by decide +kernel⟩
abbrev s_need_all : Stmt := topS 38
abbrev n_need_all : List Str := ["flow", "code", "room"]
abbrev p_need_all : List Str := ["flow", "code", "room"]
theorem sc_need_all : FnScope n_need_all p_need_all (defScope s_need_all) := ⟨rfl, rfl, rfl, by decide +kernel, rfl, by decide +kernel, by decide +kernel⟩
abbrev s_trace : Stmt := topS 39
abbrev n_trace : List Str := ["flow", "code", "room", "cells", "found", "turn", "at", "box", "told"]
abbrev p_trace : List Str := ["flow", "code", "room"]
theorem sc_trace : FnScope n_trace p_trace (defScope s_trace) := ⟨rfl, rfl, rfl, by decide +kernel, rfl, by decide +kernel, by decide +kernel⟩
abbrev s_taken : Stmt := topS 41
abbrev n_taken : List Str := ["_law_row", "_law_many", "_law_found", "_law_cell"]
abbrev p_taken : List Str := ["_law_row", "_law_many"]
theorem sc_taken : FnScope n_taken p_taken (defScope s_taken) := ⟨rfl, rfl, rfl, by decide +kernel, rfl, by decide +kernel, by decide +kernel⟩
abbrev s_pick : Stmt := topS 42
abbrev n_pick : List Str := ["_law_row", "_law_things"]
abbrev p_pick : List Str := ["_law_row", "_law_things"]
theorem sc_pick : FnScope n_pick p_pick (defScope s_pick) := ⟨rfl, rfl, rfl, by decide +kernel, rfl, by decide +kernel, by decide +kernel⟩
abbrev s_any : Stmt := topS 43
abbrev n_any : List Str := ["_law_row", "_law_many", "_law_pipes", "_law_turn"]
abbrev p_any : List Str := ["_law_row"]
theorem sc_any : FnScope n_any p_any (defScope s_any) := ⟨rfl, rfl, rfl, by decide +kernel, rfl, by decide +kernel, by decide +kernel⟩
abbrev s_gcd : Stmt := topS 44
abbrev n_gcd : List Str := ["_law_one", "_law_other"]
abbrev p_gcd : List Str := ["_law_one", "_law_other"]
theorem sc_gcd : FnScope n_gcd p_gcd (defScope s_gcd) := ⟨rfl, rfl, rfl, by decide +kernel, rfl, by decide +kernel, by decide +kernel⟩
abbrev s_flow : Stmt := topS 45
abbrev n_flow : List Str := ["_law_row", "_law_most", "_law_top", "_law_many", "_law_way", "_law_pipes", "_law_counts", "_law_k", "_law_pair", "_law_turn", "_law_found", "_law_one", "_law_other", "_law_common", "_law_more"]
abbrev p_flow : List Str := ["_law_row", "_law_most", "_law_top"]
theorem sc_flow : FnScope n_flow p_flow (defScope s_flow) := ⟨rfl, rfl, rfl, by decide +kernel, rfl, by decide +kernel, by decide +kernel⟩
abbrev s_ratio : Stmt := topS 46
abbrev n_ratio : List Str := ["_law_numerator", "_law_denominator", "_law_common"]
abbrev p_ratio : List Str := ["_law_numerator", "_law_denominator"]
theorem sc_ratio : FnScope n_ratio p_ratio (defScope s_ratio) := ⟨rfl, rfl, rfl, by decide +kernel, rfl, by decide +kernel, by decide +kernel⟩
abbrev s_joined : Stmt := topS 47
abbrev n_joined : List Str := ["_law_flow_here", "_law_box", "_law_both", "_law_found", "_law_turn", "_law_more", "_law_pipe", "_law_k"]
abbrev p_joined : List Str := ["_law_flow_here", "_law_box", "_law_both"]
theorem sc_joined : FnScope n_joined p_joined (defScope s_joined) := ⟨rfl, rfl, rfl, by decide +kernel, rfl, by decide +kernel, by decide +kernel⟩
abbrev s_round : Stmt := topS 48
abbrev n_round : List Str := ["_law_flow_here", "_law_shares", "_law_box", "_law_turn", "_law_one", "_law_other", "_law_give", "_law_eat", "_law_start", "_law_found", "_law_part", "_law_below", "_law_common", "_law_k"]
abbrev p_round : List Str := ["_law_flow_here"]
theorem sc_round : FnScope n_round p_round (defScope s_round) := ⟨rfl, rfl, rfl, by decide +kernel, rfl, by decide +kernel, by decide +kernel⟩
abbrev s_some : Stmt := topS 49
abbrev n_some : List Str := ["_law_flow_here", "_law_pipe"]
abbrev p_some : List Str := ["_law_flow_here"]
theorem sc_some : FnScope n_some p_some (defScope s_some) := ⟨rfl, rfl, rfl, by decide +kernel, rfl, by decide +kernel, by decide +kernel⟩
abbrev s_can : Stmt := topS 50
abbrev n_can : List Str := ["_law_flow_here", "_law_some_here", "_law_box", "_law_k"]
abbrev p_can : List Str := ["_law_flow_here", "_law_some_here", "_law_box"]
theorem sc_can : FnScope n_can p_can (defScope s_can) := ⟨rfl, rfl, rfl, by decide +kernel, rfl, by decide +kernel, by decide +kernel⟩
abbrev s_next : Stmt := topS 51
abbrev n_next : List Str := ["_law_flow_here", "_law_some_here", "_law_box", "_law_found", "_law_k", "_law_one", "_law_other", "_law_give", "_law_eat", "_law_start"]
abbrev p_next : List Str := ["_law_flow_here", "_law_some_here", "_law_box"]
theorem sc_next : FnScope n_next p_next (defScope s_next) := ⟨rfl, rfl, rfl, by decide +kernel, rfl, by decide +kernel, by decide +kernel⟩
abbrev s_do : Stmt := topS 52
abbrev n_do : List Str := ["_law_flow_here", "_law_counts", "_law_some_here", "_law_done", "_law_turn", "_law_fits", "_law_box"]
abbrev p_do : List Str := ["_law_flow_here", "_law_counts"]
theorem sc_do : FnScope n_do p_do (defScope s_do) := ⟨rfl, rfl, rfl, by decide +kernel, rfl, by decide +kernel, by decide +kernel⟩
abbrev s_with : Stmt := topS 53
abbrev n_with : List Str := ["_law_flow_here", "_law_some_here", "_law_k"]
abbrev p_with : List Str := ["_law_flow_here", "_law_some_here"]
theorem sc_with : FnScope n_with p_with (defScope s_with) := ⟨rfl, rfl, rfl, by decide +kernel, rfl, by decide +kernel, by decide +kernel⟩
abbrev s_live : Stmt := topS 54
abbrev n_live : List Str := ["_law_row", "_law_most", "_law_top", "_law_flow_here", "_law_counts", "_law_turn", "_law_done", "_law_some_here", "_law_left", "_law_k", "_law_pipe"]
abbrev p_live : List Str := ["_law_row", "_law_most", "_law_top"]
theorem sc_live : FnScope n_live p_live (defScope s_live) := ⟨rfl, rfl, rfl, by decide +kernel, rfl, by decide +kernel, by decide +kernel⟩
abbrev s_word : Stmt := topS 55
abbrev n_word : List Str := ["_law_row", "_law_flow_here", "_law_most", "_law_some_here", "_law_word_here", "_law_turn", "_law_fits", "_law_box"]
abbrev p_word : List Str := ["_law_row", "_law_flow_here", "_law_most"]
theorem sc_word : FnScope n_word p_word (defScope s_word) := ⟨rfl, rfl, rfl, by decide +kernel, rfl, by decide +kernel, by decide +kernel⟩
abbrev s_loop : Stmt := topS 56
abbrev n_loop : List Str := ["_law_row", "_law_deep", "_law_most", "_law_found", "_law_turn", "_law_body"]
abbrev p_loop : List Str := ["_law_row", "_law_deep", "_law_most"]
theorem sc_loop : FnScope n_loop p_loop (defScope s_loop) := ⟨rfl, rfl, rfl, by decide +kernel, rfl, by decide +kernel, by decide +kernel⟩
abbrev s_unrolled : Stmt := topS 57
abbrev n_unrolled : List Str := ["_law_loop_here", "_law_found", "_law_item", "_law_turn"]
abbrev p_unrolled : List Str := ["_law_loop_here"]
theorem sc_unrolled : FnScope n_unrolled p_unrolled (defScope s_unrolled) := ⟨rfl, rfl, rfl, by decide +kernel, rfl, by decide +kernel, by decide +kernel⟩
abbrev s_code : Stmt := topS 58
abbrev n_code : List Str := ["_law_loop_here", "_law_found", "_law_item"]
abbrev p_code : List Str := ["_law_loop_here"]
theorem sc_code : FnScope n_code p_code (defScope s_code) := ⟨rfl, rfl, rfl, by decide +kernel, rfl, by decide +kernel, by decide +kernel⟩
abbrev s_peaks : Stmt := topS 59
abbrev n_peaks : List Str := ["_law_flow_here", "_law_word_here", "_law_some_here", "_law_found", "_law_box", "_law_then", "_law_k", "_law_own"]
abbrev p_peaks : List Str := ["_law_flow_here", "_law_word_here"]
theorem sc_peaks : FnScope n_peaks p_peaks (defScope s_peaks) := ⟨rfl, rfl, rfl, by decide +kernel, rfl, by decide +kernel, by decide +kernel⟩
abbrev s_room : Stmt := topS 60
abbrev n_room : List Str := ["_law_row", "_law_flow_here", "_law_most", "_law_pipe"]
abbrev p_room : List Str := ["_law_row", "_law_flow_here", "_law_most"]
theorem sc_room : FnScope n_room p_room (defScope s_room) := ⟨rfl, rfl, rfl, by decide +kernel, rfl, by decide +kernel, by decide +kernel⟩
abbrev s_cells : Stmt := topS 61
abbrev n_cells : List Str := ["_law_flow_here", "_law_word_here", "_law_room_here", "_law_some_here", "_law_eaten", "_law_laid", "_law_found", "_law_box", "_law_full", "_law_gets", "_law_lays", "_law_pipe", "_law_k"]
abbrev p_cells : List Str := ["_law_flow_here", "_law_word_here", "_law_room_here"]
theorem sc_cells : FnScope n_cells p_cells (defScope s_cells) := ⟨rfl, rfl, rfl, by decide +kernel, rfl, by decide +kernel, by decide +kernel⟩
abbrev s_alike : Stmt := topS 62
abbrev n_alike : List Str := ["_law_found", "_law_due", "_law_k"]
abbrev p_alike : List Str := ["_law_found", "_law_due"]
theorem sc_alike : FnScope n_alike p_alike (defScope s_alike) := ⟨rfl, rfl, rfl, by decide +kernel, rfl, by decide +kernel, by decide +kernel⟩
abbrev s_law : Stmt := topS 63
abbrev n_law : List Str := ["_law_script", "_law_row", "_law_flow_here", "_law_word_here", "_law_loop_here", "_law_line", "_law_code_here", "_law_told", "_law_needs", "_law_room_here", "_law_due", "error", "_law_one"]
abbrev p_law : List Str := ["_law_script"]
theorem sc_law : FnScope n_law p_law (defScope s_law) := ⟨rfl, rfl, rfl, by decide +kernel, rfl, by decide +kernel, by decide +kernel⟩

/-! ### what the top has left -/
structure Tx (mg : Str → Option Value) : Prop where
  z_len : mg "len" = none
  z_range : mg "range" = none
  z_isinstance : mg "isinstance" = none
  z_int : mg "int" = none
  z_bool : mg "bool" = none
  z_tuple : mg "tuple" = none
  z_list : mg "list" = none
  z_str : mg "str" = none
  z_enumerate : mg "enumerate" = none
  z_max : mg "max" = none
  z_abs : mg "abs" = none
  z_sum : mg "sum" = none
/-- a def that stands behind the top -/
def Df (K : PySem.W.Frag) (mg : Str → Option Value) (x : Str) (st : Stmt) (ps : List Str) : Prop := ∃ f fd, Fun K x x st f fd ∧ mg x = some (.ref f) ∧ Binds K fd ps []
/-- a def that keeps its promise -/
def Ca (P : Program) (w : World) (K : PySem.W.Frag) (mg : Str → Option Value) (base : Heap) (CX : CXT) (k : Nat) (x : Str) (ps : List Str) (sp : Sp) : Prop :=
  ∃ f fd, FnOk P w K mg base CX k f fd ps sp ∧ mg x = some (.ref f) ∧ PySem.W.keepIn K (.ref f) = true ∧ Binds K fd ps []
section
variable {X : Cx}
/-- o[i], o a list or a tuple -/
def rIxLT (K : PySem.W.Frag) : R2 := fun x y H Q => ∃ p xs i v, x = .ref p ∧ y = .int i ∧ (SqL K H p xs ∨ SqT K H p xs) ∧ atI xs i = some v ∧ Q v H
theorem ix_lt : IxR X (rIxLT X.K) := fun a b pins s σ H x y v u Q I rx ry q hs => by
  obtain ⟨p, xs, i, z, e1, e2, h, ha, q⟩ := q
  refine (ix_list.or ix_tup) a b pins s σ H x y v u Q I rx ry ?_ hs
  rcases h with h | h
  · exact .inl ⟨p, xs, i, z, e1, e2, h, ha, q⟩
  · exact .inr ⟨p, xs, i, z, e1, e2, h, ha, q⟩
end
/-! ### tables: lists by their places -/
def tab {α : Type} (m : Nat) (g : Nat → α) : List α := (List.range m).map g
section
variable {α β : Type} {m k : Nat} {g g' : Nat → α}
theorem tab_len : (tab m g).length = m := by simp [tab]
theorem tab_get (h : k < m) : (tab m g)[k]? = some (g k) := by simp [tab, h]
theorem tab_at (h : k < m) : atI (tab m g) (k : Int) = some (g k) := atI_nat (tab_get h)
theorem tab_zero : tab 0 g = [] := rfl
theorem tab_succ : tab (m + 1) g = tab m g ++ [g m] := by simp [tab, List.range_succ]
theorem tab_congr (h : ∀ j, j < m → g j = g' j) : tab m g = tab m g' := by
  simp only [tab]
  exact List.map_congr_left fun j hj => h j (List.mem_range.mp hj)
theorem tab_map (f : α → β) : (tab m g).map f = tab m fun j => f (g j) := by simp [tab]
theorem tab_some {v : α} (h : (tab m g)[k]? = some v) : k < m ∧ v = g k := by
  have hk : k < m := by
    have q := (List.getElem?_eq_some_iff.mp h).1
    rwa [tab_len] at q
  rw [tab_get hk] at h
  exact ⟨hk, (Option.some.inj h).symm⟩
theorem tab_set {v : α} : (tab m g).set k v = tab m fun j => if j = k then v else g j := by
  apply List.ext_getElem?
  intro i
  rw [List.getElem?_set, tab_len]
  by_cases hi : i < m
  · rw [tab_get hi]
    by_cases hk : k = i
    · subst hk
      rw [if_pos rfl, if_pos hi, tab_get hi, if_pos rfl]
    · rw [if_neg hk, tab_get hi, if_neg (Ne.symm hk)]
  · have e1 : (tab m fun j => if j = k then v else g j)[i]? = none := List.getElem?_eq_none_iff.mpr (by rw [tab_len]; omega)
    have e2 : (tab m g)[i]? = none := List.getElem?_eq_none_iff.mpr (by rw [tab_len]; omega)
    rw [e1, e2]
    by_cases hk : k = i
    · rw [if_pos hk, if_neg (by omega)]
    · rw [if_neg hk]
theorem tab_ixN (h : k < m) : ixN (tab m g).length (k : Int) = some k := by
  unfold ixN
  rw [tab_len, if_pos (by omega), if_pos (by omega)]
  simp
theorem list_tab (xs : List α) (d : α) : xs = tab xs.length fun j => xs.getD j d := by
  apply List.ext_getElem?
  intro i
  by_cases hi : i < xs.length
  · rw [tab_get hi, List.getElem?_eq_getElem hi, List.getD_eq_getElem?_getD, List.getElem?_eq_getElem hi]
    rfl
  · rw [List.getElem?_eq_none_iff.mpr (by omega), List.getElem?_eq_none_iff.mpr (by rw [tab_len]; omega)]
end
/-! ### heaps -/
/-- all that was tracked but what stands at r is as it was -/
def Kp (r : Addr) (H H' : Hp) : Prop := ∀ b o, b ≠ r → H b = some o → H' b = some o
/-- the tuples stand -/
def Ts (H H' : Hp) : Prop := ∀ b xs, H b = some (.tup xs) → H' b = some (.tup xs)
section
variable {H H1 H2 H' : Hp} {a b l p r : Addr} {o u : HO}
theorem Same.new (h : Same H H1) (n : H1 p = none) : Same H (upd H1 p o) := fun b q e => by
  have e1 := h b q e
  rw [upd_ne (ne_of_none e1 n)]
  exact e1
theorem same_new (n : H p = none) : Same H (upd H p o) := Same.new (Same.refl H) n
/-- an object that the base does not know is changed -/
theorem Same.mut (h : Same H H1) (n : H p = none) : Same H (upd H1 p o) := fun b q e => by
  rw [upd_ne (ne_of_none e n)]
  exact h b q e
theorem Same.ts (h : Same H H1) : Ts H H1 := fun b xs e => h b _ e
theorem Ts.refl : Ts H H := fun _ _ e => e
theorem Ts.trans (h : Ts H H1) (h2 : Ts H1 H2) : Ts H H2 := fun b xs e => h2 b xs (h b xs e)
theorem Kp.refl : Kp r H H := fun _ _ _ e => e
theorem Kp.trans (h : Kp r H H1) (h2 : Kp r H1 H2) : Kp r H H2 := fun b o n e => h2 b o n (h b o n e)
theorem Same.kp (h : Same H H1) : Kp r H H1 := fun b o _ e => h b o e
theorem Kp.ts {xs : List V} (h : Kp r H H1) (hr : H r = some (.lst xs)) : Ts H H1 := fun b ys e => h b _ (ne_of e hr (by intro z; cases z)) e
theorem Kp.new (h : Kp r H H1) (n : H1 p = none) : Kp r H (upd H1 p o) := fun b q ne e => by
  have e1 := h b q ne e
  rw [upd_ne (ne_of_none e1 n)]
  exact e1
theorem Kp.put (h : Kp r H H1) : Kp r H (upd H1 r o) := fun b q ne e => by
  rw [upd_ne ne]
  exact h b q ne e
theorem Kp.mut (h : Kp r H H1) (n : H p = none) : Kp r H (upd H1 p o) := fun b q ne e => by
  rw [upd_ne (ne_of_none e n)]
  exact h b q ne e
theorem keep_new (n : H p = none) (h : H b = some u) : upd H p o b = some u := by
  rw [upd_ne (ne_of_none h n)]
  exact h
theorem keep_ne (n : b ≠ p) (h : H b = some u) : upd H p o b = some u := by
  rw [upd_ne n]
  exact h
theorem none_new (n : H p = none) (h : H' b = none) (s : Same H H') : H b = none := s.free h
/-- a new object: the heap that has it -/
theorem new_at {Q : V → Hp → Prop} (h : ∀ p H1, H p = none → Same H H1 → H1 p = some o → Q (.ref p) H1) : ∀ p, H p = none → Q (.ref p) (upd H p o) := fun p n => h p _ n (same_new n) upd_same
end
theorem small_ok {n : Nat} (h : n ≤ 100000) : n ≤ sizeLine := Nat.le_trans h (by decide)
theorem small_lt {n : Nat} (h : n < 100000) : n < sizeLine := Nat.lt_of_lt_of_le h (by decide)
/-! ### flows in the heap -/
structure Pipe where
  one : Int
  other : Int
  give : Int
  eat : Int
  start : Int
def Pipe.vs (p : Pipe) : List V := [.int p.one, .int p.other, .int p.give, .int p.eat, .int p.start]
/-- the flow at f: n boxes, m pipes P -/
structure FlowAt (H : Hp) (f : Addr) (n m : Nat) (P : Nat → Pipe) (pa : Addr) (ad : Nat → Addr) : Prop where
  top : H f = some (.tup [.int n, .ref pa])
  all : H pa = some (.tup (tab m fun k => .ref (ad k)))
  pipe : ∀ k, k < m → H (ad k) = some (.tup (P k).vs)
theorem FlowAt.ts {H H' : Hp} {f pa : Addr} {n m : Nat} {P : Nat → Pipe} {ad : Nat → Addr} (h : FlowAt H f n m P pa ad) (t : Ts H H') : FlowAt H' f n m P pa ad :=
  ⟨t _ _ h.top, t _ _ h.all, fun k hk => t _ _ (h.pipe k hk)⟩
/-- a table of ints -/
def itab (m : Nat) (s : Nat → Int) : List V := tab m fun k => .int (s k)
section
variable {m k : Nat} {s s' : Nat → Int}
theorem itab_len : (itab m s).length = m := tab_len
theorem itab_at (h : k < m) : atI (itab m s) (k : Int) = some (.int (s k)) := tab_at h
theorem itab_get (h : k < m) : (itab m s)[k]? = some (.int (s k)) := tab_get h
theorem itab_succ : itab (m + 1) s = itab m s ++ [.int (s m)] := tab_succ
theorem itab_congr (h : ∀ j, j < m → s j = s' j) : itab m s = itab m s' := tab_congr fun j hj => by rw [h j hj]
theorem itab_set {v : Int} : (itab m s).set k (.int v) = itab m fun j => if j = k then v else s j := by
  unfold itab
  rw [tab_set]
  refine tab_congr fun j _ => ?_
  show (if j = k then V.int v else V.int (s j)) = V.int (if j = k then v else s j)
  by_cases h : j = k
  · rw [if_pos h, if_pos h]
  · rw [if_neg h, if_neg h]
theorem itab_map : itab m s = (tab m s).map V.int := by rw [tab_map]; rfl
end
theorem itab_atI {m : Nat} {s : Nat → Int} {i : Int} (h0 : 0 ≤ i) (h : i < m) : atI (itab m s) i = some (.int (s i.toNat)) := by
  obtain ⟨k, rfl⟩ : ∃ k : Nat, i = (k : Int) := ⟨i.toNat, by omega⟩
  exact itab_at (by omega)
theorem itab_ixI {m : Nat} {s : Nat → Int} {i : Int} (h0 : 0 ≤ i) (h : i < m) : ixN (itab m s).length i = some i.toNat := by
  obtain ⟨k, rfl⟩ : ∃ k : Nat, i = (k : Int) := ⟨i.toNat, by omega⟩
  exact tab_ixN (by omega)
/-- a pipe that the law draws, n boxes -/
structure PipeOk (n : Nat) (p : Pipe) (top : Int) : Prop where
  one0 : 0 ≤ p.one
  one1 : p.one < n
  oth0 : 0 ≤ p.other
  oth1 : p.other < n
  giv0 : 1 ≤ p.give
  giv1 : p.give ≤ 8
  eat0 : 1 ≤ p.eat
  eat1 : p.eat ≤ 8
  sta0 : 0 ≤ p.start
  sta1 : p.start ≤ top
/-- a flow that the law draws -/
structure FlowOk (n m : Nat) (P : Nat → Pipe) (top : Int) : Prop where
  n1 : 1 ≤ n
  n5 : n ≤ 5
  m6 : m ≤ 6
  pipe : ∀ k, k < m → PipeOk n (P k) top
/-! ### tests -/
section
variable {A B : Prop}
theorem ite_eqi {a b : Int} (h1 : a = b → A) (h2 : ¬ a = b → B) : if decide (V.int a = V.int b) = true then A else B :=
  ite2 (fun c => h1 (V.int.inj (of_decide_eq_true c))) fun c => h2 fun e => c (by rw [e]; exact decide_eq_true rfl)
theorem ite_nei {a b : Int} (h1 : ¬ a = b → A) (h2 : a = b → B) : if (!decide (V.int a = V.int b)) = true then A else B := by
  by_cases e : a = b
  · rw [decide_eq_true (congrArg V.int e)]
    exact iteF (h2 e)
  · rw [decide_eq_false fun z => e (V.int.inj z)]
    exact iteT (h1 e)
theorem ite_dec {p : Prop} [Decidable p] (h1 : p → A) (h2 : ¬ p → B) : if decide p = true then A else B :=
  ite2 (fun c => h1 (of_decide_eq_true c)) fun c => h2 fun e => c (decide_eq_true e)
theorem ite_ndec {p : Prop} [Decidable p] (h1 : ¬ p → A) (h2 : p → B) : if (!decide p) = true then A else B := by
  by_cases e : p
  · rw [decide_eq_true e]
    exact iteF (h2 e)
  · rw [decide_eq_false e]
    exact iteT (h1 e)
end
/-! ### loops over ranges -/
theorem rg_lo {m : Nat} : -(2 ^ 62) ≤ (m : Int) := by omega
theorem rg_hi {m : Nat} (h : m ≤ 100000) : (m : Int) < 2 ^ 62 := by omega
theorem it_rng {m : Nat} {j : Int} {R : It → Hp → Prop} {H : Hp} (hj : j = (m : Int)) (hm : m ≤ 100000) (h : R (Itr 0 m) H) : ∃ i : Int, [V.int j] = [.int i] ∧ -(2 ^ 62) ≤ i ∧ i < 2 ^ 62 ∧ R (Itr 0 i.toNat) H := by
  subst hj
  exact ⟨_, rfl, by omega, by omega, h⟩
theorem it_rng2 {m : Nat} {i j : Int} {R : It → Hp → Prop} {H : Hp} (h0 : -100000 ≤ i) (hj : (j - i).toNat = m) (h1 : i ≤ 100000) (h2 : -100000 ≤ j) (h3 : j ≤ 100000) (h : R (Itr i m) H) :
    ∃ a b : Int, [V.int i, V.int j] = [.int a, .int b] ∧ (-(2 ^ 62) ≤ a ∧ a < 2 ^ 62 ∧ -(2 ^ 62) ≤ b ∧ b < 2 ^ 62) ∧ R (Itr a (b - a).toNat) H := by
  subst hj
  exact ⟨i, j, rfl, ⟨by omega, by omega, by omega, by omega⟩, h⟩
theorem for_rng {n : Nat} {g : TG} {tb : TS} {D : Ends} {σ : St} {H : Hp} (Pv : Nat → St → Hp → Prop) (h0 : Pv 0 σ H)
    (hs : ∀ i σ H, i < n → Pv i σ H → g (.int (i : Int)) σ H fun σ2 H2 => tb { D with nx := Pv (i + 1), ct := Pv (i + 1), bk := D.nx } σ2 H2) (hd : ∀ σ H, Pv n σ H → D.nx σ H) :
    ∃ W : Nat → Nat → St → Hp → Prop, (∃ m, W 0 m σ H) ∧ ∀ i m σ H, W i m σ H →
      ((Itr 0 n).stop i H ∧ D.nx σ H) ∨ ((Itr 0 n).go i H ∧ ∃ N : St → Hp → Prop, (∀ σ' H', N σ' H' → ∃ m', m' < m ∧ W (i + 1) m' σ' H') ∧ ∀ x H', (Itr 0 n).yld i H x H' → g x σ H' fun σ2 H2 => tb { D with nx := N, ct := N, bk := D.nx } σ2 H2) :=
  for_range (lo := 0) (n := n) Pv h0 (fun i σ H hi p => by
    rw [Int.zero_add]
    exact hs i σ H hi p) hd
theorem comp_rng {n : Nat} {g : TG} {tt : TT} {te : TE} {vs : List Nat} {σ : St} {H1 : Hp} {D : Addr} {Qd : Hp → Prop} (Pv : Nat → Hp → Prop) (h0 : Pv 0 (upd H1 D (.lst [])))
    (hs : ∀ i H, i < n → Pv i H → g (.int (i : Int)) (wipe σ vs) H fun σ2 H2 => wipe σ2 vs = wipe σ vs ∧ tt σ2 H2 fun b H3 =>
      if b = true then te σ2 H3 fun y H4 => ∃ acc, H4 D = some (.lst acc) ∧ acc.length < sizeLine ∧ Pv (i + 1) (upd H4 D (.lst (acc ++ [y]))) else Pv (i + 1) H3) (hd : ∀ H, Pv n H → Qd H) :
    ∃ W : Nat → Nat → Hp → Prop, (∃ m, W 0 m (upd H1 D (.lst []))) ∧ ∀ i m H, W i m H →
      ((Itr 0 n).stop i H ∧ Qd H) ∨ ((Itr 0 n).go i H ∧ ∃ Nx : Hp → Prop, (∀ H', Nx H' → ∃ m', m' < m ∧ W (i + 1) m' H') ∧ ∀ x H', (Itr 0 n).yld i H x H' → g x (wipe σ vs) H' fun σ2 H2 => wipe σ2 vs = wipe σ vs ∧ tt σ2 H2 fun b H3 =>
        if b = true then te σ2 H3 fun y H4 => ∃ acc, H4 D = some (.lst acc) ∧ acc.length < sizeLine ∧ Nx (upd H4 D (.lst (acc ++ [y]))) else Nx H3) :=
  lc_range (lo := 0) (n := n) Pv h0 (fun i H hi p => by
    rw [Int.zero_add]
    exact hs i H hi p) hd
end Rf
namespace Rf
open PySem PySem.Spec L2 PyProof.Rows
open AutoSeq1 (wpAny_loadPart')
/-! ### rules with the written part named -/
section
variable {X : Cx} {K : PySem.W.Frag}
theorem ix_ltK (h : X.K = K) : IxR X (rIxLT K) := h ▸ ix_lt
def rLen (K : PySem.W.Frag) : List V → Hp → VK → Prop := fun xs H Q => ∃ p ys, xs = [.ref p] ∧ (SqL K H p ys ∨ SqT K H p ys) ∧ Q (.int ys.length) H
theorem call_lenK (h : X.K = K) : CallR X (.builtin "len") (rLen K) := h ▸ call_len_seq
def rTupOf (K : PySem.W.Frag) : List V → Hp → VK → Prop := fun xs H Q => ∃ p ys, xs = [.ref p] ∧ ((SqL K H p ys ∧ ∀ l, H l = none → Q (.ref l) (upd H l (.tup ys))) ∨ (SqT K H p ys ∧ Q (.ref p) H))
theorem call_tupleK (h : X.K = K) : CallR X (.type "tuple") (rTupOf K) := h ▸ call_tuple_of
def rLstOf (K : PySem.W.Frag) : List V → Hp → VK → Prop := fun xs H Q => ∃ p ys, xs = [.ref p] ∧ (SqL K H p ys ∨ SqT K H p ys) ∧ ∀ l, H l = none → Q (.ref l) (upd H l (.lst ys))
theorem call_listK (h : X.K = K) : CallR X (.type "list") (rLstOf K) := h ▸ call_list_of
theorem op_inK (h : X.K = K) : OpR X (compareOp .In) (rIn K false) := h ▸ op_in_seq
theorem op_notInK (h : X.K = K) : OpR X (compareOp .NotIn) (rIn K true) := h ▸ op_notIn_seq
theorem op_eqK (h : X.K = K) (hu : X.A.units + 64 < cLine) : OpR X (compareOp .Eq) (rEqD K) := h ▸ op_eqD hu
theorem op_neK (h : X.K = K) (hu : X.A.units + 64 < cLine) : OpR X (compareOp .NotEq) (rNeD K) := h ▸ op_neD hu
theorem cr_sumK (h : X.K = K) (hc : X.calm = true) : CallR X (.builtin "sum") (rSum K) := h ▸ cr_sum hc
theorem cr_maxK (h : X.K = K) (hc : X.calm = true) : CallR X (.builtin "max") (rMax K) := h ▸ cr_max hc
theorem sl_tupK (h : X.K = K) : SlR X (rSlA K) := h ▸ sl_tupA
theorem op_catK (h : X.K = K) : OpR X (binaryOp .Add) (rCatA K) := h ▸ op_catA
theorem op_repK (h : X.K = K) : OpR X (binaryOp .Mult) (rRepT K) := h ▸ op_repT
theorem pi_tupK {tg l : Expr} {tl : TE} (h : X.K = K) (hl : PE X l tl) : PI X tg l (iTup K tl) := h ▸ pi_tup hl
theorem pi_listK {tg l : Expr} {tl : TE} (h : X.K = K) (hl : PE X l tl) : PI X tg l (iList K tl) := h ▸ pi_list hl
theorem pg_tupK {es : List Expr} {k : Nat} {t : TGs} {n : Nat} {pos : Pos} (h : X.K = K) (hc : X.calm = true) (g : PGs X es t)
    (hn : (assignEach es X.env).length = n := by rfl) (hst : (assignEach es X.env).findIdx? (·.1) = none := by rfl) : PG X (.Tuple es k pos) (gTup K n t) := h ▸ pg_tup hc g hn hst
theorem pg_unlK {es : List Expr} {k : Nat} {t : TGs} {n : Nat} {pos : Pos} (h : X.K = K) (hc : X.calm = true) (g : PGs X es t)
    (hn : (assignEach es X.env).length = n := by rfl) (hst : (assignEach es X.env).findIdx? (·.1) = none := by rfl) : PG X (.Tuple es k pos) (gUnl K n t) := h ▸ pg_unl hc g hn hst
/-- a statement, then the rest: what follows is shown once, from Mid -/
def tCt (t u : TS) : TS := fun D σ H => ∃ Mid : L2.St → Hp → Prop, t { D with nx := Mid } σ H ∧ ∀ σ' H', Mid σ' H' → u D σ' H'
theorem pss_ct {st : Stmt} {rest : List Stmt} {t u : TS} (h1 : PS X st t) (h2 : PSs X rest u) : PSs X (st :: rest) (tCt t u) := by
  refine ⟨fun pins s σ H D I h => ?_⟩
  obtain ⟨Mid, ht, hu⟩ := h
  refine wpAny_execs_cons (thn (h1.run pins s σ H { D with nx := Mid } I ht) fun f s1 q => ?_)
  cases f with
  | next =>
    obtain ⟨σ', H', I', q⟩ := q
    exact h2.run pins s1 σ' H' D I' (hu _ _ q)
  | ret v => exact q
  | brk => exact q
  | cont => exact q
/-! ### isinstance(x, T), T a built-in class -/
/-- the name of a value's class -/
inductive TyN (H : Hp) : V → String → Prop
  | int (i : Int) : TyN H (.int i) "int"
  | bl (b : Bool) : TyN H (.bl b) "bool"
  | str (x : Str) : TyN H (.str x) "str"
  | tup (a : Addr) (xs : List V) : H a = some (.tup xs) → TyN H (.ref a) "tuple"
  | lst (a : Addr) (xs : List V) : H a = some (.lst xs) → TyN H (.ref a) "list"
theorem TyN.tyx {K : PySem.W.Frag} {H : Hp} {x : V} {t : String} (h : TyN H x t) : TyX K H x (.type t) := by
  cases h with
  | int i => exact .base (.int i)
  | bl b => exact .base (.bl b)
  | str x => exact .base (.str x)
  | tup a xs e => exact .base (.tup e)
  | lst a xs e => exact .base (.lst e)
def rIs : List V → Hp → VK → Prop := fun xs H Q => ∃ (x : V) (T t : String) (b : Bool), xs = [x, .ty T] ∧ TyN H x t ∧ kitB t T = some b ∧ Q (.bl b) H
theorem call_is : CallR X (.builtin "isinstance") rIs := fun pins s σ H xs us Q I r h => by
  obtain ⟨x, T, t, b, rfl, ht, hb, q⟩ := h
  exact call_isi pins s σ H _ us Q I r ⟨x, .ty T, .type t, .type T, b, rfl, .ty T, ht.tyx, kit_ty hb, q⟩
/-- isinstance(x, (S, T)) -/
def rIs2 : List V → Hp → VK → Prop := fun xs H Q => ∃ (x : V) (tp : Addr) (S T t : String) (b c : Bool), xs = [x, .ref tp] ∧ H tp = some (.tup [.ty S, .ty T]) ∧ TyN H x t ∧ kitB t S = some b ∧ kitB t T = some c ∧ Q (.bl (b || c)) H
theorem call_is2 : CallR X (.builtin "isinstance") rIs2 := fun pins s σ H xs us Q I r h => by
  obtain ⟨x, tp, S, T, t, b, c, rfl, hT, ht, hb, hc, q⟩ := h
  refine call_isiT pins s σ H _ us Q I r ⟨x, tp, [.ty S, .ty T], .type t, [.type S, .type T], b || c, rfl, hT, .cons (.ty S) (.cons (.ty T) .nil), ht.tyx, ?_, q⟩
  refine kitAny_cons (kit_ty hb) (fun e => ?_) (fun e => by rw [e]; rfl)
  rw [e, Bool.false_or]
  exact kitAny_cons (kit_ty hc) (fun e => by rw [e]; exact kitAny_nil) (fun e => e)
end
theorem kb_ii : kitB "int" "int" = some true := by decide +kernel
theorem kb_ib : kitB "int" "bool" = some false := by decide +kernel
theorem kb_it : kitB "int" "tuple" = some false := by decide +kernel
theorem kb_il : kitB "int" "list" = some false := by decide +kernel
theorem kb_is : kitB "int" "str" = some false := by decide +kernel
theorem kb_ti : kitB "tuple" "int" = some false := by decide +kernel
theorem kb_tb : kitB "tuple" "bool" = some false := by decide +kernel
theorem kb_tt : kitB "tuple" "tuple" = some true := by decide +kernel
theorem kb_tl : kitB "tuple" "list" = some false := by decide +kernel
theorem kb_ts : kitB "tuple" "str" = some false := by decide +kernel
theorem kb_ss : kitB "str" "str" = some true := by decide +kernel
theorem kb_si : kitB "str" "int" = some false := by decide +kernel
/-! ### xs[i] op= e on a list; max(a, b, c) -/
section
variable {X : Cx}
def rGetL : V → V → Hp → VK → Prop := fun o i H Q => ∃ (p : Addr) (xs : List V) (k : Nat) (v : V), o = .ref p ∧ i = .int k ∧ H p = some (.lst xs) ∧ xs[k]? = some v ∧ Q v H
theorem get_list : PGet X rGetL := fun pins s σ H o i ov iv Q I ro ri h => by
  obtain ⟨p, xs, k, v, rfl, rfl, hp, hv, q⟩ := h
  cases ro
  obtain ⟨t, rfl⟩ := ri
  obtain ⟨its, r, pl, hz⟩ := I.list (SqL.of hp)
  obtain ⟨w, ew, rw'⟩ := r.get hv
  have hk : k < xs.length := (List.getElem?_eq_some_iff.mp hv).1
  have hn := line63
  exact wpAny_getItem_list pl.isList (by omega) (by omega) (by simpa using ew) ⟨v, H, I, rw', q⟩
/-- the same, the place counted from the end -/
def rGetZ : V → V → Hp → VK → Prop := fun o i H Q => ∃ p xs v, o = .ref p ∧ i = .int (-1) ∧ H p = some (.lst (xs ++ [v])) ∧ Q v H
theorem call_max3 (hc : X.calm = true) : CallR X (.builtin "max") (fun xs H Q => ∃ i j k, xs = [.int i, .int j, .int k] ∧ ∀ m, (m = i ∨ m = j ∨ m = k) → i ≤ m → j ≤ m → k ≤ m → Q (.int m) H) := fun pins s σ H xs us Q I r h => by
  obtain ⟨i, j, k, rfl, q⟩ := h
  cases r with
  | cons r1 r =>
    cases r with
    | cons r2 r =>
      cases r with
      | cons r3 r =>
        cases r
        obtain ⟨t, rfl⟩ := r1
        obtain ⟨u, rfl⟩ := r2
        obtain ⟨x, rfl⟩ := r3
        refine max_three_ints (I.ok.hd hc) fun h' tk hk => ?_
        have J := I.kept (h' := h') (t' := tk) hk
        by_cases c1 : j > i
        · rw [if_pos c1]
          by_cases c2 : k > j
          · rw [if_pos c2]
            exact ⟨.int k, H, J, ⟨_, rfl⟩, q k (.inr (.inr rfl)) (by omega) (by omega) (by omega)⟩
          · rw [if_neg c2]
            exact ⟨.int j, H, J, ⟨_, rfl⟩, q j (.inr (.inl rfl)) (by omega) (by omega) (by omega)⟩
        · rw [if_neg c1]
          by_cases c2 : k > i
          · rw [if_pos c2]
            exact ⟨.int k, H, J, ⟨_, rfl⟩, q k (.inr (.inr rfl)) (by omega) (by omega) (by omega)⟩
          · rw [if_neg c2]
            exact ⟨.int i, H, J, ⟨_, rfl⟩, q i (.inl rfl) (by omega) (by omega) (by omega)⟩
end
/-! ### enumerate(tuple) -/
theorem new_enumT (l : Addr) (items : Array Value) (n : Nat) (dct : Option Addr) (sl : Array (Option Value)) :
    Meets (Builtin.«enumerate.__new__» ⟨[.type "enumerate", .ref l], []⟩) (fun _ R s => s.heap.get? l = some { cls := .type "tuple", dict := dct, data := .seq items n, slots := sl } ∧
      R (.ok (.ret (.ref (s.heap.push { cls := .type "tuple_iterator", data := .fields #[.ref l, .int 0 0] }).objs.size)))
        { s with heap := (s.heap.push { cls := .type "tuple_iterator", data := .fields #[.ref l, .int 0 0] }).push { cls := .type "enumerate", data := .fields #[.none, .bool false, .ref s.heap.objs.size, rawInt 0, .none, .none] } }) :=
  .of_wp fun prog w A R s h => by
    obtain ⟨hp, g, d, tk, os⟩ := s
    obtain ⟨hl, h⟩ := h
    have hsub := sub_enumerate
    have hT : Heap.IsTuple (Shared.heap ⟨hp, g, d, tk, os⟩) l items := ⟨_, hl, rfl, n, rfl⟩
    wp_walk using wpAny_loadPart' hl
    refine wpAny_stack_any fun st => wpAny_pure ?_
    split
    · rename_i c _ _ _ _ _
      cases (c == Value.type "enumerate") <;> (wp_walk using wpAny_loadPart' hl, wpAny_pyIter_tuple hT; exact ⟨_, rfl, h⟩)
    · wp_walk using wpAny_loadPart' hl, wpAny_pyIter_tuple hT
      exact ⟨_, rfl, h⟩
section
variable {prog : Program} {w : World} {A : Around} {E : Value → Shared → Prop} {s : Shared}
theorem call_enumT {l : Addr} {items : Array Value} {Q : Value → Shared → Prop} (hL : s.heap.IsTuple l items)
    (h : ∀ h', IsEnum h' (s.heap.objs.size + 1) s.heap.objs.size 0 .none → h'.IsTupleIter s.heap.objs.size l 0 → h'.objs.size = s.heap.objs.size + 2 →
      (∀ b o, s.heap.get? b = some o → h'.get? b = some o) → Q (.ref (s.heap.objs.size + 1)) { s with heap := h' }) :
    wpAny (model prog w) A (call (.type "enumerate") [.ref l]) Q E s := by
  obtain ⟨⟨c, dct, dt, sl⟩, hl, hc, n, hd⟩ := hL
  obtain rfl : c = .type "tuple" := hc
  obtain rfl : dt = .seq items n := hd
  refine callType_new F.called_enumerate (by decide) (F.typeCall_enumerate_1 _) (F.newCall_enumerate_1 _) (fun obj => F.args_object_init_2 obj _) F.entry_enumerate_new (new_enumT l items n dct sl) ⟨hl, ?_⟩
  have hz : (s.heap.push { cls := .type "tuple_iterator", data := .fields #[.ref l, .int 0 0] }).objs.size = s.heap.objs.size + 1 := Heap.size_push ..
  show _ ∧ _
  rw [hz]
  have he : IsEnum ((s.heap.push { cls := .type "tuple_iterator", data := .fields #[.ref l, .int 0 0] }).push { cls := .type "enumerate", data := .fields #[.none, .bool false, .ref s.heap.objs.size, rawInt 0, .none, .none] }) (s.heap.objs.size + 1) s.heap.objs.size 0 .none := by
    have z := Heap.get?_push_size (s.heap.push { cls := .type "tuple_iterator", data := .fields #[.ref l, .int 0 0] }) (o := { cls := .type "enumerate", data := .fields #[.none, .bool false, .ref s.heap.objs.size, rawInt 0, .none, .none] }) rfl
    rw [hz] at z
    exact z
  exact ⟨⟨_, he, rfl⟩, h _ he ⟨_, Heap.get?_push_of_some _ (Heap.get?_push_size _ rfl), rfl, rfl⟩ (by rw [Heap.size_push, hz]) fun b o x => Heap.get?_push_of_some _ (Heap.get?_push_of_some _ x)⟩
end
section
variable {prog : Program} {w : World} {A : Around} {E : Value → Shared → Prop} {s : Shared}
theorem wpAny_pyNext_enum_endT {e it t : Addr} {i : Nat} {c : Int} {items : Array Value} {old : Value} {Q : Option Value → Shared → Prop} (hc : A.handled = none) (he : IsEnum s.heap e it c old) (hit : s.heap.IsTupleIter it t i) (ht : s.heap.IsTuple t items) (hx : items[i]? = none)
    (hQ : ∀ h', Heap.ExtBut it s.heap h' → Q none { s with heap := h' }) : wpAny (model prog w) A (pyNext (.ref e)) Q E s := by
  have hT : s.TypeIs (.ref e) "enumerate" := ⟨_, he, rfl⟩
  unfold pyNext
  refine wpAny_bind (wpAny_attempt (wpAny_callSpecial?_slot (name := Str.ofString "__next__") hT F.slot_enumerate_next
    (wpAny_call_entry F.slot_enumerate_next hT F.entry_enumerate_next ?_ (F.args_enumerate_next_1 _))))
  show wpAny _ _ (field (.ref e) 2 >>= _) _ _ _
  refine wpAny_bind (wpAny_field he rfl (x := .ref it) rfl ?_)
  refine wpAny_bind (wpAny_nextOf_tuple_end hc hit ht hx fun h' x ex hx' => ?_)
  obtain ⟨o, ho, hk⟩ := hx'
  refine wpAny_bind (wpAny_isInstance (T := "StopIteration") (b := true) ⟨o, ho, hk⟩ isSubtype_stop ?_)
  exact wpAny_pure (hQ _ ex)
end
/-- each item of the tuple at a, in a new pair -/
def IteT (K : PySem.W.Frag) (a : Addr) : It :=
  ⟨fun i H => ∃ (xs : List V) (x : V), SqT K H a xs ∧ xs[i]? = some x, fun i H v H' => ∃ T x, v = .ref T ∧ H T = none ∧ H' = upd H T (.tup [.int (i : Nat), x]) ∧ ∀ xs, SqT K H a xs → xs[i]? = some x, fun i H => ∃ xs : List V, SqT K H a xs ∧ xs.length ≤ i⟩
theorem turn_enumT {P : Program} {w : World} {K : PySem.W.Frag} {elts : List Expr} {kk : Nat} {tpos : Pos} (a e it : Addr) :
    Turn P w K (.Tuple elts kk tpos) (IteT K a) [e, it] e (fun i h => (∃ old, IsEnum h e it ((i : Nat) : Int) old) ∧ h.IsTupleIter it a i ∧ e ≠ it ∧ a ≠ it ∧ a ≠ e) where
  mem := by simp
  obj := fun i h st b hb => by
    obtain ⟨⟨old, he⟩, ⟨o, ho, hc, hd⟩, _⟩ := st
    have eb : b = e ∨ b = it := by simpa using hb
    rcases eb with rfl | rfl
    · exact ⟨_, he, fun v q => nomatch q⟩
    · exact ⟨o, ho, fun v q => by rw [hd] at q; cases q⟩
  keep := fun i h h' st k => by
    obtain ⟨⟨old, he⟩, hi, n⟩ := st
    exact ⟨⟨old, k e (by simp) _ he⟩, hi.at fun o q => k it (by simp) o q, n⟩
  item := by
    intro X hP hw hK hc i pins s σ H E I hf st hg
    subst hP hw hK
    obtain ⟨⟨old, he⟩, hit, hne, hai, hae⟩ := st
    obtain ⟨xs, x, hq, hx⟩ := hg
    obtain ⟨its, rv, p, hz⟩ := I.tuple hq
    obtain ⟨u, hu, ru⟩ := rv.get hx
    have hel : e < s.heap.objs.size := Heap.lt_size he
    have hil : it < s.heap.objs.size := by
      obtain ⟨_, q, _⟩ := hit
      exact Heap.lt_size q
    have hlt : i < its.toArray.size := by
      have q := (List.getElem?_eq_some_iff.mp hu).1
      simpa using q
    refine wpAny_pyNext_enum_itemD (Draws.tuple (A := X.A.in1) (I.ok.hd hc) it a hai its.toArray) he ⟨hit, p⟩ hlt hne (by simp [hne, Ne.symm hae]) fun y h' tk hP ho hst' hT hsz hk => ?_
    obtain ⟨hit', _⟩ := hst'
    obtain rfl : y = u := by
      have q : its[i]? = some y := by simpa using hP
      exact Option.some.inj (q.symm.trans hu)
    refine ⟨_, rfl, wpAny_letOwnedTupleGo_enum (s := { s with heap := h', toks := tk + 1 }) ho fun h'' he' sb => ?_⟩
    have hT2 : h''.get? s.heap.objs.size = some { cls := .type "tuple", data := .seq #[.int i tk, y] } := (sb.2 _ (Nat.ne_of_gt hel)).trans hT
    have new : ObjOk X.prog X.w (upd H s.heap.objs.size (.tup [.int (i : Nat), x])) h'' s.heap.objs.size (.tup [.int (i : Nat), x]) :=
      ⟨by show 2 ≤ sizeLine; decide, [.int i tk, y], .cons ⟨_, rfl⟩ (.cons ru .nil), ⟨_, hT2, rfl, _, rfl⟩⟩
    have I1 : Inv X pins σ (upd H s.heap.objs.size (.tup [.int (i : Nat), x])) { s with heap := h'', toks := tk + 1 } :=
      I.turnedNew (ch := [e, it]) (fun b ob hb q => (sb.2 b (fun z => hb (by simp [z]))).trans (hk b ob (fun z => hb (by simp [z])) (fun z => hb (by simp [z])) q)) hf (Nat.le_refl _) new
    refine ⟨.ref s.heap.objs.size, _, I1, rfl, ⟨_, x, rfl, I.hok.fresh (Nat.le_refl _), rfl, fun ys hy => by rw [I.tuple_inj hy hq]; exact hx⟩, ⟨⟨y, ?_⟩, hit'.at fun o q => (sb.2 it (Ne.symm hne)).trans q, hne, hai, hae⟩, fun b hb => ?_⟩
    · have e1 : ((i + 1 : Nat) : Int) = (i : Int) + 1 := by omega
      rw [e1]
      exact he'
    · have hb' : b < s.heap.objs.size := by
        have eb : b = e ∨ b = it := by simpa using hb
        rcases eb with rfl | rfl
        · exact hel
        · exact hil
      rw [upd_ne (Nat.ne_of_lt hb')]
      exact (hf b hb).1
  done := by
    intro X hP hw hK hc i pins s σ H E I hf st hg
    subst hP hw hK
    obtain ⟨⟨old, he⟩, hit, hne, hai, hae⟩ := st
    obtain ⟨xs, hq, hx⟩ := hg
    obtain ⟨its, rv, p, hz⟩ := I.tuple hq
    obtain ⟨f0, f1, f2, f3, f4, f5⟩ := hf it (by simp)
    have hl := rv.length
    refine wpAny_pyNext_enum_endT (hc := I.ok.hd hc) he hit p (by simp; omega) fun h' eb => ⟨rfl, I.turned (t' := s.toks) (fun b o hb q => eb b o hb q) f0 f1 f3 f4 f5⟩
  self := fun A i s Q E st h => by
    obtain ⟨⟨_, he⟩, _⟩ := st
    exact wpAny_pyIter_enum he h
def iEnumT (K : PySem.W.Frag) (ta : TA) : TI := fun σ H R => ta σ H fun vs H1 => ∃ a xs, vs = [.ref a] ∧ SqT K H1 a xs ∧ R (IteT K a) H1
theorem pi_enumTK {X : Cx} {K : PySem.W.Frag} {e : Expr} {ta : TA} {p pos tpos : Pos} {elts : List Expr} {kk : Nat} (hK : X.K = K) (hg : Gl X "enumerate") (hm : X.mg "enumerate" = none) (ha : PA X [e] ta) (hs : starEach [e] X.env = [(false, eval e X.env)] := by rfl) :
    PI X (.Tuple elts kk tpos) (.Call (.Name "enumerate" p) [e] [] pos) (iEnumT K ta) := by
  subst hK
  refine ⟨fun pins s σ H R I h => ?_⟩
  refine Call_ (ld_blt I hg hm boot_enumerate (callWith_type1 (thn (ha.run pos pins s σ H _ I h) fun us s1 ⟨vs, H1, I1, r1, q1⟩ => ?_) hs rfl))
  obtain ⟨a, xs, ex, hq, q⟩ := q1
  subst ex
  cases r1 with
  | cons r rr =>
    cases rr
    cases r
    obtain ⟨its, rv, p', hz⟩ := I1.tuple hq
    have hal : a < s1.heap.objs.size := p'.lt
    refine call_enumT p' fun h' he hit hsz hk => wpAny_pyIter_enum he ?_
    have I2 : Inv X pins σ H1 { s1 with heap := h' } := I1.kept (t' := s1.toks) hk
    refine ⟨s1.heap.objs.size + 1, [s1.heap.objs.size + 1, s1.heap.objs.size], _, _, H1, rfl, I2, turn_enumT a (s1.heap.objs.size + 1) s1.heap.objs.size, ⟨⟨.none, he⟩, hit, Nat.succ_ne_self _, Nat.ne_of_lt hal, Nat.ne_of_lt (Nat.lt_succ_of_lt hal)⟩, fun b hb => ?_, q⟩
    have eb : b = s1.heap.objs.size + 1 ∨ b = s1.heap.objs.size := by simpa using hb
    have hle : s1.heap.objs.size ≤ b := by
      rcases eb with rfl | rfl
      · exact Nat.le_add_right _ _
      · exact Nat.le_refl _
    exact I1.fpOk hle (I1.hok.fresh hle)
theorem pi_enumK {X : Cx} {K : PySem.W.Frag} {e : Expr} {ta : TA} {p pos tpos : Pos} {elts : List Expr} {kk : Nat} (hK : X.K = K) (hg : Gl X "enumerate") (hm : X.mg "enumerate" = none) (ha : PA X [e] ta) (hs : starEach [e] X.env = [(false, eval e X.env)] := by rfl) :
    PI X (.Tuple elts kk tpos) (.Call (.Name "enumerate" p) [e] [] pos) (iEnum K ta) := hK ▸ pi_enum hg hm ha hs
/-- the loop for i, x in enumerate(t): each pair is new -/
theorem for_enumT {K : PySem.W.Frag} {a : Addr} {xs : List V} {g : TG} {tb : TS} {D : Ends} {σ : L2.St} {H : Hp} (Pv : Nat → L2.St → Hp → Prop) (h0 : Pv 0 σ H) (hl : ∀ i σ H, i ≤ xs.length → Pv i σ H → SqT K H a xs)
    (hs : ∀ i x σ H T, xs[i]? = some x → Pv i σ H → H T = none → g (.ref T) σ (upd H T (.tup [.int (i : Nat), x])) fun σ2 H2 => tb { D with nx := Pv (i + 1), ct := Pv (i + 1), bk := D.nx } σ2 H2) (hd : ∀ σ H, Pv xs.length σ H → D.nx σ H) :
    ∃ W : Nat → Nat → L2.St → Hp → Prop, (∃ m, W 0 m σ H) ∧ ∀ i m σ H, W i m σ H →
      ((IteT K a).stop i H ∧ D.nx σ H) ∨ ((IteT K a).go i H ∧ ∃ N : L2.St → Hp → Prop, (∀ σ' H', N σ' H' → ∃ m', m' < m ∧ W (i + 1) m' σ' H') ∧ ∀ x H', (IteT K a).yld i H x H' → g x σ H' fun σ2 H2 => tb { D with nx := N, ct := N, bk := D.nx } σ2 H2) := by
  refine ⟨fun i m σ H => m = xs.length - i ∧ i ≤ xs.length ∧ Pv i σ H, ⟨xs.length, by simp, Nat.zero_le _, h0⟩, ?_⟩
  rintro i m σ H ⟨rfl, hi, p⟩
  have q := hl i σ H hi p
  by_cases hlt : i < xs.length
  · refine .inr ⟨⟨xs, xs[i], q, by simp [hlt]⟩, Pv (i + 1), fun σ' H' p' => ⟨xs.length - (i + 1), by omega, rfl, hlt, p'⟩, fun x H' y => ?_⟩
    obtain ⟨T, z, rfl, nT, rfl, hz⟩ := y
    exact hs i z σ H T (hz xs q) p nT
  · have e : i = xs.length := by omega
    subst e
    exact .inl ⟨⟨xs, q, Nat.le_refl _⟩, hd σ H p⟩
theorem for_enumL {K : PySem.W.Frag} {a : Addr} {xs : List V} {g : TG} {tb : TS} {D : Ends} {σ : L2.St} {H : Hp} (Pv : Nat → L2.St → Hp → Prop) (h0 : Pv 0 σ H) (hl : ∀ i σ H, i ≤ xs.length → Pv i σ H → SqL K H a xs)
    (hs : ∀ i x σ H T, xs[i]? = some x → Pv i σ H → H T = none → g (.ref T) σ (upd H T (.tup [.int (i : Nat), x])) fun σ2 H2 => tb { D with nx := Pv (i + 1), ct := Pv (i + 1), bk := D.nx } σ2 H2) (hd : ∀ σ H, Pv xs.length σ H → D.nx σ H) :
    ∃ W : Nat → Nat → L2.St → Hp → Prop, (∃ m, W 0 m σ H) ∧ ∀ i m σ H, W i m σ H →
      ((Ite K a).stop i H ∧ D.nx σ H) ∨ ((Ite K a).go i H ∧ ∃ N : L2.St → Hp → Prop, (∀ σ' H', N σ' H' → ∃ m', m' < m ∧ W (i + 1) m' σ' H') ∧ ∀ x H', (Ite K a).yld i H x H' → g x σ H' fun σ2 H2 => tb { D with nx := N, ct := N, bk := D.nx } σ2 H2) := by
  refine ⟨fun i m σ H => m = xs.length - i ∧ i ≤ xs.length ∧ Pv i σ H, ⟨xs.length, by simp, Nat.zero_le _, h0⟩, ?_⟩
  rintro i m σ H ⟨rfl, hi, p⟩
  have q := hl i σ H hi p
  by_cases hlt : i < xs.length
  · refine .inr ⟨⟨xs, xs[i], q, by simp [hlt]⟩, Pv (i + 1), fun σ' H' p' => ⟨xs.length - (i + 1), by omega, rfl, hlt, p'⟩, fun x H' y => ?_⟩
    obtain ⟨T, z, rfl, nT, rfl, hz⟩ := y
    exact hs i z σ H T (hz xs q) p nT
  · have e : i = xs.length := by omega
    subst e
    exact .inl ⟨⟨xs, q, Nat.le_refl _⟩, hd σ H p⟩
end Rf
namespace Rf
open PySem PySem.Spec L2
/-! ### tables that leave places out -/
def fl {α : Type} (m : Nat) (pr : Nat → Bool) (g : Nat → α) : List α := ((List.range m).filter pr).map g
section
variable {α : Type} {m i : Nat} {pr : Nat → Bool} {g : Nat → α}
theorem fl_yes (h : pr i = true) : fl (i + 1) pr g = fl i pr g ++ [g i] := by
  unfold fl
  rw [List.range_succ, List.filter_append, List.map_append, List.filter_cons, if_pos h]
  rfl
theorem fl_no (h : pr i = false) : fl (i + 1) pr g = fl i pr g := by
  unfold fl
  rw [List.range_succ, List.filter_append, List.map_append, List.filter_cons, if_neg (by rw [h]; decide)]
  show _ ++ [] = _
  rw [List.append_nil]
theorem fl_len : (fl m pr g).length ≤ m := by
  unfold fl
  rw [List.length_map]
  have h := List.length_filter_le pr (List.range m)
  rwa [List.length_range] at h
theorem fl_map {β : Type} (f : α → β) : (fl m pr g).map f = fl m pr fun k => f (g k) := by
  unfold fl
  rw [List.map_map]
  rfl
theorem fl_mem {x : α} (h : x ∈ fl m pr g) : ∃ k, k < m ∧ pr k = true ∧ x = g k := by
  unfold fl at h
  obtain ⟨k, hk, rfl⟩ := List.mem_map.mp h
  obtain ⟨h1, h2⟩ := List.mem_filter.mp hk
  exact ⟨k, List.mem_range.mp h1, h2, rfl⟩
theorem fl_in {k : Nat} (hk : k < m) (h : pr k = true) : g k ∈ fl m pr g := List.mem_map_of_mem (List.mem_filter.mpr ⟨List.mem_range.mpr hk, h⟩)
theorem fl_nil : (fl m pr g = []) = ((List.range m).all fun k => !pr k) := by
  unfold fl
  rw [List.map_eq_nil_iff, List.filter_eq_nil_iff, List.all_eq_true]
  refine propext ⟨fun h k hk => ?_, fun h k hk => ?_⟩
  · have := h k hk
    simpa using this
  · have := h k hk
    simpa using this
theorem fl_nilD [Decidable (fl m pr g = [])] : decide (fl m pr g = []) = (List.range m).all fun k => !pr k := by
  rw [Bool.eq_iff_iff, decide_eq_true_iff, fl_nil]
end
/-! ### tables of places, one more -/
def ext {α : Type} (ad : Nat → α) (i : Nat) (r : α) : Nat → α := fun k => if k = i then r else ad k
section
variable {α β : Type} {ad : Nat → α} {i k : Nat} {r : α}
theorem ext_same : ext ad i r i = r := if_pos rfl
theorem ext_ne (h : k ≠ i) : ext ad i r k = ad k := if_neg h
theorem tab_ext (f : α → β) : tab i (fun k => f (ad k)) ++ [f r] = tab (i + 1) fun k => f (ext ad i r k) := by
  rw [tab_succ, ext_same]
  exact congrArg (fun z => z ++ [f r]) (tab_congr fun j hj => by rw [ext_ne (Nat.ne_of_lt hj)])
end
/-! ### replicated, summed, cut tables -/
theorem rep_itab {n : Nat} {z : Int} : (List.replicate n [V.int z]).flatten = itab n fun _ => z := by
  induction n with
  | zero => rfl
  | succ n ih =>
    rw [List.replicate_succ', List.flatten_append, ih, itab_succ]
    rfl
theorem sum_tab {n : Nat} {cs : Nat → Int} {b : Int} (h : ∀ k, k < n → 0 ≤ cs k ∧ cs k ≤ b) : 0 ≤ (tab n cs).sum ∧ (tab n cs).sum ≤ n * b := by
  induction n with
  | zero => exact ⟨by rw [tab_zero, List.sum_nil]; exact Int.le_refl 0, by rw [tab_zero, List.sum_nil]; omega⟩
  | succ n ih =>
    obtain ⟨h1, h2⟩ := ih fun k hk => h k (by omega)
    obtain ⟨h3, h4⟩ := h n (by omega)
    rw [tab_succ, List.sum_append]
    have e : ([cs n] : List Int).sum = cs n := by simp
    rw [e]
    have e2 : ((n + 1 : Nat) : Int) * b = n * b + b := by
      rw [Int.natCast_add, Int.add_mul]
      simp
    omega
theorem cut_to {xs : List V} {k : Nat} (h : k ≤ xs.length) : cutV xs none (some (k : Int)) = xs.take k := by
  unfold cutV
  rw [HT.sIx_none, HT.sIx_nat, List.drop_zero, Nat.sub_zero, Nat.min_eq_left h]
theorem cut_from {xs : List V} {k : Nat} (h : k ≤ xs.length) : cutV xs (some (k : Int)) none = xs.drop k := by
  unfold cutV
  rw [HT.sIx_none, HT.sIx_nat, Nat.min_eq_left h]
  exact List.take_of_length_le (by rw [List.length_drop]; exact Nat.le_refl _)
theorem cut_mid {xs : List V} {k j : Nat} (h : k ≤ xs.length) (h2 : j ≤ xs.length) : cutV xs (some (k : Int)) (some (j : Int)) = (xs.drop k).take (j - k) := by
  unfold cutV
  rw [HT.sIx_nat, HT.sIx_nat, Nat.min_eq_left h, Nat.min_eq_left h2]
theorem cut_put {m k : Nat} {s : Nat → Int} {v : Int} (h : k < m) : cutV (itab m s) none (some (k : Int)) ++ [V.int v] ++ cutV (itab m s) (some ((k + 1 : Nat) : Int)) none = itab m fun j => if j = k then v else s j := by
  rw [cut_to (by rw [itab_len]; omega), cut_from (by rw [itab_len]; omega), ← itab_set, List.set_eq_take_append_cons_drop, if_pos (by rw [itab_len]; exact h), List.append_assoc]
  rfl
theorem last_int {ks : List Int} (h : ks ≠ []) : ∃ v, v ∈ ks ∧ atI (ks.map V.int) (-1) = some (.int v) := by
  refine ⟨ks.getLast h, List.getLast_mem h, ?_⟩
  have e : ks.map V.int = (ks.dropLast.map V.int) ++ [.int (ks.getLast h)] := by
    rw [← List.map_singleton, ← List.map_append, List.dropLast_concat_getLast]
  rw [e]
  exact atI_last _ _
/-! ### data compared -/
section
variable {K : PySem.W.Frag} {H : Hp} {a b : Addr} {ks ls : List Int} {Q : VK}
theorem dp_ints : ∀ ks : List Int, DpAll K H (ks.map V.int) (ks.map PyData.int)
  | [] => .nil
  | k :: ks => .cons (.int k) (dp_ints ks)
theorem cl_ints : ∀ ks : List Int, PyData.canLayAll0 (ks.map PyData.int) = true
  | [] => by simp [PyData.canLayAll0]
  | k :: ks => by simp [PyData.canLayAll0, PyData.canLay0, cl_ints ks]
theorem dep_ints : ∀ ks : List Int, PyData.depthAll (ks.map PyData.int) ≤ 1
  | [] => by simp [PyData.depthAll]
  | k :: ks => by
    have h := dep_ints ks
    simp [PyData.depthAll, PyData.depth]
    omega
theorem sh_list {ds : List PyData} (h : PyData.canLayAll0 ds = true) (h2 : PyData.depthAll ds ≤ 60) : SeqAt.shaped (.list ds) = true := by
  unfold SeqAt.shaped
  simp [PyData.canLay0, PyData.depth, h]
  omega
theorem sh_tuple {ds : List PyData} (h : PyData.canLayAll0 ds = true) (h2 : PyData.depthAll ds ≤ 60) : SeqAt.shaped (.tuple ds) = true := by
  unfold SeqAt.shaped
  simp [PyData.canLay0, PyData.depth, h]
  omega
theorem eqv_ints : ∀ ks ls : List Int, PyData.eqvAll (ks.map PyData.int) (ls.map PyData.int) = decide (ks = ls)
  | [], [] => by simp [PyData.eqvAll]
  | [], l :: ls => by simp [PyData.eqvAll]
  | k :: ks, [] => by simp [PyData.eqvAll]
  | k :: ks, l :: ls => by
    have h := eqv_ints ks ls
    simp only [List.map_cons, PyData.eqvAll, PyData.eqv, h]
    by_cases e : k = l <;> by_cases e2 : ks = ls <;> simp [e, e2]
theorem eqv_nil : ∀ ds : List PyData, PyData.eqvAll ds [] = ds.isEmpty
  | [] => by simp [PyData.eqvAll]
  | d :: ds => by simp [PyData.eqvAll]
theorem st_eqL (ha : H a = some (.lst (ks.map V.int))) (hb : H b = some (.lst (ls.map V.int))) (q : Q (.bl (decide (ks = ls))) H) : rEqD K (.ref a) (.ref b) H Q :=
  ⟨_, _, .lst (SqL.of ha) (dp_ints ks), .lst (SqL.of hb) (dp_ints ls), sh_list (cl_ints ks) (Nat.le_trans (dep_ints ks) (by decide)), sh_list (cl_ints ls) (Nat.le_trans (dep_ints ls) (by decide)), by
    rw [PyData.eqv, eqv_ints]
    exact q⟩
theorem st_neL (ha : H a = some (.lst (ks.map V.int))) (hb : H b = some (.lst (ls.map V.int))) (q : Q (.bl (!decide (ks = ls))) H) : rNeD K (.ref a) (.ref b) H Q :=
  ⟨_, _, .lst (SqL.of ha) (dp_ints ks), .lst (SqL.of hb) (dp_ints ls), sh_list (cl_ints ks) (Nat.le_trans (dep_ints ks) (by decide)), sh_list (cl_ints ls) (Nat.le_trans (dep_ints ls) (by decide)), by
    rw [PyData.eqv, eqv_ints]
    exact q⟩
theorem st_eqT (ha : H a = some (.tup (ks.map V.int))) (hb : H b = some (.tup (ls.map V.int))) (q : Q (.bl (decide (ks = ls))) H) : rEqD K (.ref a) (.ref b) H Q :=
  ⟨_, _, .tup (SqT.of ha) (dp_ints ks), .tup (SqT.of hb) (dp_ints ls), sh_tuple (cl_ints ks) (Nat.le_trans (dep_ints ks) (by decide)), sh_tuple (cl_ints ls) (Nat.le_trans (dep_ints ls) (by decide)), by
    rw [PyData.eqv, eqv_ints]
    exact q⟩
theorem st_neT (ha : H a = some (.tup (ks.map V.int))) (hb : H b = some (.tup (ls.map V.int))) (q : Q (.bl (!decide (ks = ls))) H) : rNeD K (.ref a) (.ref b) H Q :=
  ⟨_, _, .tup (SqT.of ha) (dp_ints ks), .tup (SqT.of hb) (dp_ints ls), sh_tuple (cl_ints ks) (Nat.le_trans (dep_ints ks) (by decide)), sh_tuple (cl_ints ls) (Nat.le_trans (dep_ints ls) (by decide)), by
    rw [PyData.eqv, eqv_ints]
    exact q⟩
end
/-! ### k in ks -/
theorem inV_int (k : Int) : ∀ ks : List Int, inV (.int k) (ks.map V.int) = decide (k ∈ ks)
  | [] => by simp [inV]
  | l :: ks => by
    have h := inV_int k ks
    unfold inV at h ⊢
    rw [List.map_cons, List.any_cons, h]
    by_cases e : l = k
    · simp [eqV, e]
    · have e' : ¬ k = l := fun z => e z.symm
      simp [eqV, e, e']
theorem flat_ints (ks : List Int) : (ks.map V.int).all flatV = true := by
  rw [List.all_eq_true]
  intro x hx
  obtain ⟨k, _, rfl⟩ := List.mem_map.mp hx
  rfl
theorem st_in {K : PySem.W.Frag} {H : Hp} {p : Addr} {ks : List Int} {k : Int} {Q : VK} (h : H p = some (.lst (ks.map V.int))) (q : Q (.bl (decide (k ∈ ks))) H) : rIn K false (.int k) (.ref p) H Q :=
  ⟨p, _, rfl, .inl (SqL.of h), rfl, flat_ints ks, by
    rw [if_neg Bool.false_ne_true, inV_int]
    exact q⟩
/-! ### dicts with int keys -/
theorem putK_len {κ : Type} [DecidableEq κ] (kvs : List (κ × V)) (k : κ) (v : V) : (putK kvs k v).length ≤ kvs.length + 1 := by
  unfold putK
  split
  · rw [List.length_map]
    omega
  · rw [List.length_append]
    exact Nat.le_refl _
section
variable {H : Hp} {d : Addr} {kvs : List (Key × V)} {k : Int} {v : V}
theorem dget_k (h : H d = some (.dK kvs)) : DGet H d (.int k) (valV kvs (.inl k)) := DGet.k (k := .inl k) h
theorem dget_v (h : H d = some (.dK kvs)) (hv : valV kvs (.inl k) = some v) : DGet H d (.int k) (some v) := hv ▸ DGet.k (k := .inl k) h
theorem dput_k (h : H d = some (.dK kvs)) (hz : kvs.length < 100000) : DPut H d (.int k) v (upd H d (.dK (putK kvs (.inl k) v))) := DPut.k (k := .inl k) h (small_lt hz)
end
/-! ### lists of tuples -/
def LR (H : Hp) (l : Addr) (j : Nat) (F : Nat → List V → Prop) : Prop := ∃ (ad : Nat → Addr) (ts : Nat → List V), H l = some (.lst (tab j fun k => .ref (ad k))) ∧ ∀ k, k < j → H (ad k) = some (.tup (ts k)) ∧ F k (ts k)
section
variable {H H' : Hp} {l p r : Addr} {j : Nat} {F : Nat → List V → Prop} {xs t : List V}
theorem LR.same (h : LR H l j F) (e : Same H H') : LR H' l j F := by
  obtain ⟨ad, ts, h1, h2⟩ := h
  exact ⟨ad, ts, e _ _ h1, fun k hk => ⟨e _ _ (h2 k hk).1, (h2 k hk).2⟩⟩
theorem LR.kp (h : LR H l j F) (e : Kp r H H') (hr : H r = some (.lst xs)) (n : l ≠ r) : LR H' l j F := by
  obtain ⟨ad, ts, h1, h2⟩ := h
  exact ⟨ad, ts, e _ _ n h1, fun k hk => ⟨e _ _ (ne_of (h2 k hk).1 hr (by intro z; cases z)) (h2 k hk).1, (h2 k hk).2⟩⟩
theorem LR.nil : LR (upd H l (.lst [])) l 0 F := ⟨fun _ => 0, fun _ => [], upd_same, fun k hk => absurd hk (Nat.not_lt_zero k)⟩
theorem LR.len (h : LR H l j F) : ∃ xs, H l = some (.lst xs) ∧ xs.length = j := by
  obtain ⟨ad, ts, h1, h2⟩ := h
  exact ⟨_, h1, tab_len⟩
theorem LR.add (h : LR H l j F) (hl : H l = some (.lst xs)) (hp : H p = some (.tup t)) (hF : F j t) : LR (upd H l (.lst (xs ++ [.ref p]))) l (j + 1) F := by
  obtain ⟨ad, ts, h1, h2⟩ := h
  have e : xs = tab j fun k => V.ref (ad k) := by
    rw [h1] at hl
    cases hl
    rfl
  subst e
  refine ⟨ext ad j p, ext ts j t, ?_, fun k hk => ?_⟩
  · rw [upd_same, tab_ext V.ref]
  · by_cases c : k = j
    · subst c
      rw [ext_same, ext_same]
      exact ⟨keep_ne (ne_of hp hl (by intro z; cases z)) hp, hF⟩
    · rw [ext_ne c, ext_ne c]
      obtain ⟨h3, h4⟩ := h2 k (by omega)
      exact ⟨keep_ne (ne_of h3 hl (by intro z; cases z)) h3, h4⟩
end
theorem Kp.free {r l : Addr} {H H' : Hp} (k : Kp r H H') (n : H' l = none) (h : l ≠ r) : H l = none := by
  cases e : H l with
  | none => rfl
  | some o =>
    rw [k l o h e] at n
    cases n
theorem rgi_lo {j : Int} (h : -1000000 ≤ j) : -(2 ^ 62) ≤ j := by omega
theorem rgi_hi {j : Int} (h : j ≤ 1000000) : j < 2 ^ 62 := by omega
theorem cmul_ok {i j : Int} (h : -1000000 ≤ i) (h2 : i ≤ 1000000) : CMul i j := .inl ⟨by omega, by omega⟩
/-! ### tuples joined -/
theorem st_cat {K : PySem.W.Frag} {H : Hp} {a b : Addr} {xs ys : List V} {Q : VK} (ha : H a = some (.tup xs)) (hb : H b = some (.tup ys)) (hz : xs.length + ys.length ≤ 100000)
    (q : ∀ p H', Same H H' → H' p = some (.tup (xs ++ ys)) → Q (.ref p) H') : rCatA K (.ref a) (.ref b) H Q :=
  ⟨a, b, xs, ys, rfl, rfl, SqT.of ha, SqT.of hb, small_ok hz, fun e => q b H (Same.refl H) (by rw [e]; exact hb), fun _ e => q a H (Same.refl H) (by rw [e, List.append_nil]; exact ha), fun _ _ p np => q p _ (same_new np) upd_same⟩
theorem st_slice {K : PySem.W.Frag} {H : Hp} {a : Addr} {xs : List V} {lo hi : Option Int} {Q : VK} (ha : H a = some (.tup xs))
    (q : ∀ p H', Same H H' → H' p = some (.tup (cutV xs lo hi)) → Q (.ref p) H') : rSlA K (.ref a) lo hi H Q :=
  ⟨a, xs, rfl, SqT.of ha, fun e => q a H (Same.refl H) (by
    unfold cutV
    rw [e.1, e.2, List.drop_zero, Nat.sub_zero, List.take_length]
    exact ha), fun _ p np => q p _ (same_new np) upd_same⟩
end Rf
namespace Rf
open PySem PySem.Spec L2
/-! ### the law's row: the script's list at a, its place, a number, a rest -/
def RowAt (K : PySem.W.Frag) (H : Hp) (row a : Addr) : Prop := ∃ (ns : List Int) (i s r : Int), H row = some (.lst [.ref a, .int i, .int s, .int r]) ∧ SqL K H a (ns.map V.int) ∧ a ≠ row ∧ ns.length ≤ 63 ∧ 0 ≤ i ∧ 0 ≤ s ∧ s < 2147483647
section
variable {K : PySem.W.Frag} {H H' H1 : Hp} {row a : Addr}
theorem RowAt.lst (h : RowAt K H row a) : ∃ xs, H row = some (.lst xs) := by
  obtain ⟨ns, i, s, r, h, _⟩ := h
  exact ⟨_, h⟩
theorem RowAt.same (h : RowAt K H row a) (e : Same H H') : RowAt K H' row a := by
  obtain ⟨ns, i, s, r, h, h2, h3⟩ := h
  exact ⟨ns, i, s, r, e _ _ h, e.seq h2, h3⟩
theorem RowAt.ts (h : RowAt K H row a) (e : Kp row H H') : Ts H H' := by
  obtain ⟨ns, i, s, r, h, _⟩ := h
  exact e.ts h
theorem Kp.seq {a : Addr} {xs : List V} (e : Kp row H H') (n : a ≠ row) (h : SqL K H a xs) : SqL K H' a xs := by
  rcases h with (h | ⟨o, h⟩) | h
  · exact .inl (.inl (e _ _ n h))
  · exact .inl (.inr ⟨o, e _ _ n h⟩)
  · exact .inr h
theorem Kp.same (h : Kp row H H') (e : Same H' H1) : Kp row H H1 := fun b o n q => e _ _ (h b o n q)
/-- a new object is not the row -/
theorem RowAt.ne {p : Addr} (h : RowAt K H row a) (n : H p = none) : p ≠ row := by
  obtain ⟨xs, h⟩ := h.lst
  exact (ne_of_none h n).symm
theorem RowAt.ne_tup {p : Addr} {xs : List V} (h : RowAt K H row a) (n : H p = some (.tup xs)) : p ≠ row := by
  obtain ⟨ys, h⟩ := h.lst
  exact ne_of n h (by intro z; cases z)
/-- an object that the base does not know is changed -/
theorem RowAt.mut {l : Addr} {o : HO} (h : RowAt K H1 row a) (h0 : RowAt K H row a) (n : H l = none) : RowAt K (upd H1 l o) row a := by
  have nr := h0.ne n
  obtain ⟨ns0, _, _, _, _, q0, _, z0, _⟩ := h0
  obtain ⟨ns, i, s, r, h, h2, e1, z, e3⟩ := h
  rcases q0 with q0 | q0
  · have na : a ≠ l := by
      rcases q0 with q0 | ⟨_, q0⟩
      · exact ne_of_none q0 n
      · exact ne_of_none q0 n
    refine ⟨ns, i, s, r, keep_ne nr.symm h, ?_, e1, z, e3⟩
    rcases h2 with (h2 | ⟨o', h2⟩) | h2
    · exact .inl (.inl (keep_ne na h2))
    · exact .inl (.inr ⟨o', keep_ne na h2⟩)
    · exact .inr h2
  · exact ⟨ns0, i, s, r, keep_ne nr.symm h, .inr q0, e1, z0, e3⟩
end
/-! ### promises of the law's draws -/
def spTaken (K : PySem.W.Frag) : Sp := fun vs H Q _ => ∃ (row sc : Addr) (m : Int), vs = [.ref row, .int m] ∧ RowAt K H row sc ∧ 1 ≤ m ∧ m ≤ 1000 ∧ ∀ (v : Int) (H' : Hp), 0 ≤ v → v < m → Kp row H H' → RowAt K H' row sc → Q (.int v) H'
def spPick (K : PySem.W.Frag) : Sp := fun vs H Q _ => ∃ (row sc t : Addr) (xs : List V), vs = [.ref row, .ref t] ∧ RowAt K H row sc ∧ H t = some (.lst xs) ∧ t ≠ row ∧ 1 ≤ xs.length ∧ xs.length ≤ 1000 ∧
  ∀ (k : Nat) (v : V) (H' : Hp), xs[k]? = some v → Kp row H H' → RowAt K H' row sc → Q v H'
def spAny (K : PySem.W.Frag) : Sp := fun vs H Q _ => ∃ (row sc : Addr), vs = [.ref row] ∧ RowAt K H row sc ∧
  ∀ (f : Addr) (n m : Nat) (P : Nat → Pipe) (pa : Addr) (ad : Nat → Addr) (H' : Hp), FlowOk n m P 1000 → Kp row H H' → RowAt K H' row sc → FlowAt H' f n m P pa ad → Q (.ref f) H'
def spGcd : Sp := fun vs H Q _ => ∃ (a b : Int), vs = [.int a, .int b] ∧ Q (.int (Int.gcd a b : Nat)) H
def spRatio : Sp := fun vs H Q _ => ∃ (a b : Int), vs = [.int a, .int b] ∧ 0 < a ∧ 0 < b ∧ b < 1000000 ∧
  ∀ p H', Same H H' → H' p = some (.tup [.int (a / (Int.gcd a b : Nat)), .int (b / (Int.gcd a b : Nat))]) → Q (.ref p) H'
def spJoined : Sp := fun vs H Q _ => ∃ (f : Addr) (box : Int) (both : Bool) (n m : Nat) (P : Nat → Pipe) (pa : Addr) (ad : Nat → Addr), vs = [.ref f, .int box, .bl both] ∧ FlowAt H f n m P pa ad ∧ FlowOk n m P 1000 ∧ 0 ≤ box ∧ box < n ∧
  ∀ (l : Addr) (ks : List Int) (H' : Hp), Same H H' → H l = none → H' l = some (.lst (ks.map V.int)) → (∀ k ∈ ks, 0 ≤ k ∧ k < n) → box ∈ ks → Q (.ref l) H'
/-- counts with which the rates of all pipes fit -/
def Bal (m : Nat) (P : Nat → Pipe) (c : Int → Int) : Prop := (∀ b, 1 ≤ c b ∧ c b ≤ 4) ∧ ∀ k, k < m → (P k).give * c (P k).one = (P k).eat * c (P k).other
def spFlow (K : PySem.W.Frag) : Sp := fun vs H Q _ => ∃ (row sc : Addr), vs = [.ref row, .int 4, .int 4] ∧ RowAt K H row sc ∧
  ∀ (f : Addr) (n m : Nat) (P : Nat → Pipe) (c : Int → Int) (pa : Addr) (ad : Nat → Addr) (H' : Hp), FlowOk n m P 4 → Bal m P c → Kp row H H' → RowAt K H' row sc → FlowAt H' f n m P pa ad → Q (.ref f) H'
def spRound : Sp := fun vs H Q _ => ∃ (f : Addr) (n m : Nat) (P : Nat → Pipe) (c : Int → Int) (pa : Addr) (ad : Nat → Addr), vs = [.ref f] ∧ FlowAt H f n m P pa ad ∧ FlowOk n m P 1000 ∧ Bal m P c ∧
  ∀ (l : Addr) (cs : Nat → Int) (H' : Hp), Same H H' → H l = none → H' l = some (.lst (itab n cs)) → (∀ k, k < n → 0 ≤ cs k ∧ cs k ≤ 60) → Q (.ref l) H'
def spSome : Sp := fun vs H Q _ => ∃ (f : Addr) (n m : Nat) (P : Nat → Pipe) (pa : Addr) (ad : Nat → Addr), vs = [.ref f] ∧ FlowAt H f n m P pa ad ∧ m ≤ 1000 ∧
  ∀ p H', Same H H' → H' p = some (.tup (itab m fun k => (P k).start)) → Q (.ref p) H'
/-- whether a box can be fired -/
def canM (m : Nat) (P : Nat → Pipe) (s : Nat → Int) (box : Int) : Bool := (List.range m).all fun k => !(decide ((P k).other = box) && decide (s k < (P k).eat))
def spCan : Sp := fun vs H Q _ => ∃ (f sa : Addr) (box : Int) (n m : Nat) (P : Nat → Pipe) (s : Nat → Int) (pa : Addr) (ad : Nat → Addr), vs = [.ref f, .ref sa, .int box] ∧ FlowAt H f n m P pa ad ∧ H sa = some (.tup (itab m s)) ∧ m ≤ 1000 ∧
  ∀ H', Same H H' → Q (.bl (canM m P s box)) H'
/-- the tokens behind a firing -/
def nextM (P : Nat → Pipe) (s : Nat → Int) (box : Int) (k : Nat) : Int := s k - (if (P k).other = box then (P k).eat else 0) + (if (P k).one = box then (P k).give else 0)
def spNext : Sp := fun vs H Q _ => ∃ (f sa : Addr) (box : Int) (n m : Nat) (P : Nat → Pipe) (s : Nat → Int) (pa : Addr) (ad : Nat → Addr), vs = [.ref f, .ref sa, .int box] ∧ FlowAt H f n m P pa ad ∧ H sa = some (.tup (itab m s)) ∧ m ≤ 1000 ∧
  ∀ p H', Same H H' → H' p = some (.tup (itab m (nextM P s box))) → Q (.ref p) H'
def spDo : Sp := fun vs H Q _ => ∃ (f cl : Addr) (n m : Nat) (P : Nat → Pipe) (cs : Nat → Int) (pa : Addr) (ad : Nat → Addr), vs = [.ref f, .ref cl] ∧ FlowAt H f n m P pa ad ∧ FlowOk n m P 1000 ∧ H cl = some (.lst (itab n cs)) ∧ (∀ k, k < n → 0 ≤ cs k ∧ cs k ≤ 60) ∧
  ∀ (p dl sa : Addr) (ds ss : Nat → Int) (H' : Hp), Same H H' → H' p = some (.tup [.ref dl, .ref sa]) → H' dl = some (.lst (itab n ds)) → H' sa = some (.tup (itab m ss)) → Q (.ref p) H'
def spWith : Sp := fun vs H Q _ => ∃ (f sa : Addr) (n m : Nat) (P : Nat → Pipe) (s : Nat → Int) (pa : Addr) (ad : Nat → Addr), vs = [.ref f, .ref sa] ∧ FlowAt H f n m P pa ad ∧ H sa = some (.tup (itab m s)) ∧ m ≤ 1000 ∧
  ∀ (f' pa' : Addr) (ad' : Nat → Addr) (H' : Hp), Same H H' → FlowAt H' f' n m (fun k => { P k with start := s k }) pa' ad' → Q (.ref f') H'
def spLive (K : PySem.W.Frag) : Sp := fun vs H Q _ => ∃ (row sc : Addr), vs = [.ref row, .int 4, .int 4] ∧ RowAt K H row sc ∧
  ∀ (f : Addr) (n m : Nat) (P : Nat → Pipe) (pa : Addr) (ad : Nat → Addr) (H' : Hp), FlowOk n m P 1000 → Kp row H H' → RowAt K H' row sc → FlowAt H' f n m P pa ad → Q (.ref f) H'
def spWord (K : PySem.W.Frag) : Sp := fun vs H Q _ => ∃ (row sc f : Addr) (n m : Nat) (P : Nat → Pipe) (pa : Addr) (ad : Nat → Addr), vs = [.ref row, .ref f, .int 14] ∧ RowAt K H row sc ∧ FlowAt H f n m P pa ad ∧ FlowOk n m P 1000 ∧
  ∀ (p : Addr) (ws : List Int) (H' : Hp), Kp row H H' → RowAt K H' row sc → H' p = some (.tup (ws.map V.int)) → ws.length ≤ 14 → (∀ b ∈ ws, 0 ≤ b ∧ b < n) → Q (.ref p) H'
def spPeaks : Sp := fun vs H Q _ => ∃ (f wa : Addr) (n m : Nat) (P : Nat → Pipe) (ws : List Int) (pa : Addr) (ad : Nat → Addr), vs = [.ref f, .ref wa] ∧ FlowAt H f n m P pa ad ∧ FlowOk n m P 1000 ∧ H wa = some (.tup (ws.map V.int)) ∧ ws.length ≤ 14 ∧
  ∀ (p : Addr) (rm : Nat → Int) (H' : Hp), Same H H' → H' p = some (.tup (itab m rm)) → (∀ k, k < m → (P k).start ≤ rm k ∧ rm k ≤ 2000) → Q (.ref p) H'
def spRoom (K : PySem.W.Frag) : Sp := fun vs H Q _ => ∃ (row sc f : Addr) (n m : Nat) (P : Nat → Pipe) (pa : Addr) (ad : Nat → Addr), vs = [.ref row, .ref f, .int 5] ∧ RowAt K H row sc ∧ FlowAt H f n m P pa ad ∧ FlowOk n m P 1000 ∧
  ∀ (p : Addr) (rm : Nat → Int) (H' : Hp), Kp row H H' → RowAt K H' row sc → H' p = some (.tup (itab m rm)) → (∀ k, k < m → (P k).start ≤ rm k ∧ rm k ≤ 3000) → Q (.ref p) H'
/-! ### looped code -/
inductive Lp where
  | nil
  | box (b : Int) (r : Lp)
  | rep (t : Int) (body r : Lp)
namespace Lp
/-- it is looped code, stretches at most d deep -/
def Ok : Nat → Lp → Prop
  | _, .nil => True
  | d, .box b r => 0 ≤ b ∧ b ≤ 7 ∧ Ok d r
  | 0, .rep _ _ _ => False
  | d + 1, .rep t body r => 2 ≤ t ∧ t ≤ 999 ∧ body ≠ .nil ∧ Ok d body ∧ Ok (d + 1) r
def size : Lp → Nat
  | .nil => 0
  | .box _ r => 1 + size r
  | .rep t body r => t.toNat * size body + size r
def len : Lp → Nat
  | .nil => 0
  | .box _ r => 1 + len r
  | .rep _ _ r => 1 + len r
def unr : Lp → List Int
  | .nil => []
  | .box b r => b :: unr r
  | .rep t body r => (List.replicate t.toNat (unr body)).flatten ++ unr r
def depth : Lp → Nat
  | .nil => 0
  | .box _ r => depth r
  | .rep _ body r => max (1 + depth body) (depth r)
def app : Lp → Lp → Lp
  | .nil, y => y
  | .box b r, y => .box b (app r y)
  | .rep t body r, y => .rep t body (app r y)
/-- the items as they stand in the heap -/
def At (H : Hp) : Lp → List V → Prop
  | .nil, xs => xs = []
  | .box b r, xs => ∃ ys, xs = .int b :: ys ∧ At H r ys
  | .rep t body r, xs => ∃ p q zs ys, xs = .ref p :: ys ∧ H p = some (.tup [.int t, .ref q]) ∧ H q = some (.tup zs) ∧ At H body zs ∧ At H r ys
theorem At.ts {H H' : Hp} (e : Ts H H') : ∀ {l : Lp} {xs : List V}, At H l xs → At H' l xs
  | .nil, _, h => h
  | .box _ r, _, ⟨ys, h1, h2⟩ => ⟨ys, h1, At.ts e h2⟩
  | .rep _ body r, _, ⟨p, q, zs, ys, h1, h2, h3, h4, h5⟩ => ⟨p, q, zs, ys, h1, e _ _ h2, e _ _ h3, At.ts e h4, At.ts e h5⟩
theorem At.len {H : Hp} : ∀ {l : Lp} {xs : List V}, At H l xs → xs.length = l.len
  | .nil, _, h => by rw [show _ = [] from h]; rfl
  | .box _ r, _, ⟨ys, h1, h2⟩ => by
    rw [h1, List.length_cons, At.len h2]
    exact Nat.add_comm _ _
  | .rep _ body r, _, ⟨p, q, zs, ys, h1, h2, h3, h4, h5⟩ => by
    rw [h1, List.length_cons, At.len h5]
    exact Nat.add_comm _ _
theorem At.app {H : Hp} {y : Lp} {ys : List V} (hy : At H y ys) : ∀ {l : Lp} {xs : List V}, At H l xs → At H (l.app y) (xs ++ ys)
  | .nil, _, h => by
    rw [show _ = [] from h]
    exact hy
  | .box _ r, _, ⟨zs, h1, h2⟩ => ⟨zs ++ ys, by rw [h1]; rfl, At.app hy h2⟩
  | .rep _ body r, _, ⟨p, q, ws, zs, h1, h2, h3, h4, h5⟩ => ⟨p, q, ws, zs ++ ys, by rw [h1]; rfl, h2, h3, h4, At.app hy h5⟩
theorem size_app (y : Lp) : ∀ l : Lp, (l.app y).size = l.size + y.size
  | .nil => (Nat.zero_add _).symm
  | .box _ r => by
    show 1 + (r.app y).size = 1 + r.size + y.size
    rw [size_app y r]
    omega
  | .rep t body r => by
    show t.toNat * body.size + (r.app y).size = t.toNat * body.size + r.size + y.size
    rw [size_app y r]
    omega
theorem ok_app {d : Nat} {y : Lp} (hy : Ok d y) : ∀ {l : Lp}, Ok d l → Ok d (l.app y)
  | .nil, _ => hy
  | .box _ r, h => by
    unfold Ok at h
    show Ok d (.box _ (r.app y))
    unfold Ok
    exact ⟨h.1, h.2.1, ok_app hy h.2.2⟩
  | .rep t body r, h => by
    cases d with
    | zero =>
      unfold Ok at h
      exact h.elim
    | succ d =>
      unfold Ok at h
      show Ok (d + 1) (.rep t body (r.app y))
      unfold Ok
      exact ⟨h.1, h.2.1, h.2.2.1, h.2.2.2.1, ok_app hy h.2.2.2.2⟩
end Lp
def LoopAt (H : Hp) (a : Addr) (l : Lp) : Prop := ∃ xs, H a = some (.tup xs) ∧ l.At H xs
theorem LoopAt.ts {H H' : Hp} {a : Addr} {l : Lp} (h : LoopAt H a l) (e : Ts H H') : LoopAt H' a l := by
  obtain ⟨xs, h1, h2⟩ := h
  exact ⟨xs, e _ _ h1, h2.ts e⟩
/-- firings of drawn looped code at most -/
def bnd : Nat → Nat
  | 0 => 3
  | d + 1 => 12 * bnd d
def spLoop (K : PySem.W.Frag) (d : Nat) : Sp := fun vs H Q _ => ∃ (row sc : Addr), vs = [.ref row, .int d, .int 3] ∧ RowAt K H row sc ∧
  ∀ (a : Addr) (l : Lp) (H' : Hp), Kp row H H' → RowAt K H' row sc → LoopAt H' a l → l.Ok d → l.size ≤ bnd d → Q (.ref a) H'
def spUnr (d : Nat) : Sp := fun vs H Q _ => ∃ (a : Addr) (l : Lp), vs = [.ref a] ∧ LoopAt H a l ∧ l.Ok d ∧ l.size ≤ 2000 ∧
  ∀ p H', Same H H' → H' p = some (.tup (l.unr.map V.int)) → Q (.ref p) H'
inductive Stp where
  | fire (b : Int)
  | rep (t : Int)
  | again
def Stp.vs : Stp → List V
  | .fire b => [.str "fire", .int b]
  | .rep t => [.str "repeat", .int t]
  | .again => [.str "again"]
def Lp.code : Lp → List Stp
  | .nil => []
  | .box b r => .fire b :: code r
  | .rep t body r => .rep t :: (code body ++ .again :: code r)
/-- code at a: its steps stand at ad -/
def CodeAt (H : Hp) (a : Addr) (cs : List Stp) (ad : Nat → Addr) : Prop := H a = some (.tup (tab cs.length fun k => .ref (ad k))) ∧ ∀ k c, cs[k]? = some c → H (ad k) = some (.tup c.vs)
theorem CodeAt.ts {H H' : Hp} {a : Addr} {cs : List Stp} {ad : Nat → Addr} (h : CodeAt H a cs ad) (e : Ts H H') : CodeAt H' a cs ad := ⟨e _ _ h.1, fun k c q => e _ _ (h.2 k c q)⟩
def spCode (d : Nat) : Sp := fun vs H Q _ => ∃ (a : Addr) (l : Lp), vs = [.ref a] ∧ LoopAt H a l ∧ l.Ok d ∧ l.size ≤ 2000 ∧
  ∀ p ad H', Same H H' → CodeAt H' p l.code ad → Q (.ref p) H'
def spSize (d : Nat) : Sp := fun vs H Q _ => ∃ (a : Addr) (l : Lp), vs = [.ref a, .int d] ∧ LoopAt H a l ∧ l.Ok d ∧ l.size ≤ 2000 ∧ ∀ H', Same H H' → Q (.int l.size) H'
def spDeep (d : Nat) : Sp := fun vs H Q _ => ∃ (a : Addr) (l : Lp), vs = [.ref a] ∧ LoopAt H a l ∧ l.Ok d ∧ l.len ≤ 1000 ∧ ∀ H', Same H H' → Q (.int l.depth) H'
def spFolded : Sp := fun vs H Q _ => ∃ (p : Addr) (ws : List Int), vs = [.ref p] ∧ H p = some (.tup (ws.map V.int)) ∧ ws.length ≤ 14 ∧ (∀ b ∈ ws, 0 ≤ b ∧ b ≤ 7) ∧
  ∀ (a : Addr) (l : Lp) (H' : Hp), Same H H' → LoopAt H' a l → l.Ok 8 → l.size ≤ 14 → Q (.ref a) H'
/-! ### the cells, by the counts of tokens eaten and laid -/
structure Trip where
  box : Int
  gets : List (Nat × Int)
  lays : List (Nat × Int)
def fullM (m : Nat) (P : Nat → Pipe) (s rm : Nat → Int) (box : Int) : Bool := (List.range m).any fun k => decide ((P k).one = box) && decide (rm k < s k + (P k).give)
def getsM (m : Nat) (P : Nat → Pipe) (e rm : Nat → Int) (box : Int) : List (Nat × Int) := ((List.range m).filter fun k => decide ((P k).other = box)).map fun k => (k, e k % rm k)
def laysM (m : Nat) (P : Nat → Pipe) (l rm : Nat → Int) (box : Int) : List (Nat × Int) := ((List.range m).filter fun k => decide ((P k).one = box)).map fun k => (k, l k % rm k)
def moreE (P : Nat → Pipe) (e : Nat → Int) (box : Int) (k : Nat) : Int := e k + (if (P k).other = box then (P k).eat else 0)
def moreL (P : Nat → Pipe) (e : Nat → Int) (box : Int) (k : Nat) : Int := e k + (if (P k).one = box then (P k).give else 0)
def goesM (n m : Nat) (P : Nat → Pipe) (rm s : Nat → Int) (box : Int) : Bool := decide (box < n) && (!fullM m P s rm box && canM m P s box)
def cellsM (n m : Nat) (P : Nat → Pipe) (rm : Nat → Int) : (s e l : Nat → Int) → List Int → List Trip
  | _, _, _, [] => []
  | s, e, l, b :: w => if goesM n m P rm s b = true then ⟨b, getsM m P e rm b, laysM m P l rm b⟩ :: cellsM n m P rm (nextM P s b) (moreE P e b) (moreL P l b) w else []
/-- pairs in the heap -/
def PairsAt (H : Hp) (a : Addr) (ps : List (Nat × Int)) : Prop := ∃ ad : Nat → Addr, H a = some (.tup (tab ps.length fun k => .ref (ad k))) ∧ ∀ k p, ps[k]? = some p → H (ad k) = some (.tup [.int p.1, .int p.2])
def TripAt (H : Hp) (a : Addr) (t : Trip) : Prop := ∃ g l, H a = some (.tup [.int t.box, .ref g, .ref l]) ∧ PairsAt H g t.gets ∧ PairsAt H l t.lays
/-- triples as they stand in a list or tuple -/
def TripsIn (H : Hp) (xs : List V) (ts : List Trip) : Prop := ∃ ad : Nat → Addr, xs = tab ts.length (fun k => .ref (ad k)) ∧ ∀ k t, ts[k]? = some t → TripAt H (ad k) t
theorem PairsAt.ts {H H' : Hp} {a : Addr} {ps : List (Nat × Int)} (h : PairsAt H a ps) (e : Ts H H') : PairsAt H' a ps := by
  obtain ⟨ad, h1, h2⟩ := h
  exact ⟨ad, e _ _ h1, fun k p q => e _ _ (h2 k p q)⟩
theorem TripAt.ts {H H' : Hp} {a : Addr} {t : Trip} (h : TripAt H a t) (e : Ts H H') : TripAt H' a t := by
  obtain ⟨g, l, h1, h2, h3⟩ := h
  exact ⟨g, l, e _ _ h1, h2.ts e, h3.ts e⟩
theorem TripsIn.ts {H H' : Hp} {xs : List V} {ts : List Trip} (h : TripsIn H xs ts) (e : Ts H H') : TripsIn H' xs ts := by
  obtain ⟨ad, h1, h2⟩ := h
  exact ⟨ad, h1, fun k t q => (h2 k t q).ts e⟩
def spCells : Sp := fun vs H Q _ => ∃ (f wa ra : Addr) (n m : Nat) (P : Nat → Pipe) (ws : List Int) (rm : Nat → Int) (pa : Addr) (ad : Nat → Addr), vs = [.ref f, .ref wa, .ref ra] ∧ FlowAt H f n m P pa ad ∧ FlowOk n m P 1000 ∧ H wa = some (.tup (ws.map V.int)) ∧ ws.length ≤ 2000 ∧
  H ra = some (.tup (itab m rm)) ∧ (∀ k, k < m → (P k).start ≤ rm k ∧ rm k ≤ 99999) ∧
  ∀ (l : Addr) (xs : List V) (H' : Hp), Same H H' → H' l = some (.lst xs) → TripsIn H' xs (cellsM n m P rm (fun k => (P k).start) (fun _ => 0) (fun k => (P k).start) ws) → Q (.ref l) H'
/-- two values of the same build -/
inductive Twin (H : Hp) : Nat → V → V → Prop
  | int (d : Nat) (i : Int) : Twin H d (.int i) (.int i)
  | tup (d : Nat) (a b : Addr) (xs ys : List V) : H a = some (.tup xs) → H b = some (.tup ys) → xs.length = ys.length → xs.length ≤ 100000 → (∀ (k : Nat) (x y : V), xs[k]? = some x → ys[k]? = some y → Twin H d x y) → Twin H (d + 1) (.ref a) (.ref b)
theorem Twin.ts {H H' : Hp} (e : Ts H H') {d : Nat} {x y : V} (h : Twin H d x y) : Twin H' d x y := by
  induction h with
  | int d i => exact .int d i
  | tup d a b xs ys h1 h2 h3 h4 _ ih => exact .tup d a b xs ys (e _ _ h1) (e _ _ h2) h3 h4 ih
def spAlike (d : Nat) : Sp := fun vs H Q _ => ∃ (x y : V), vs = [x, y] ∧ Twin H d x y ∧ ∀ H', Same H H' → Q (.bl true) H'
/-! ### promises of the program's defs -/
def spIsIn : Sp := fun vs H Q _ => (∃ v lo hi : Int, vs = [.int v, .int lo, .int hi] ∧ Q (.bl (decide (lo ≤ v) && decide (v ≤ hi))) H) ∨ ∃ (a : Addr) (xs : List V) (lo hi : Int), vs = [.ref a, .int lo, .int hi] ∧ H a = some (.tup xs) ∧ Q (.bl false) H
def spIsPipe : Sp := fun vs H Q _ => ∃ (a : Addr) (n : Nat) (p : Pipe), vs = [.ref a, .int n] ∧ H a = some (.tup p.vs) ∧ PipeOk n p 1000 ∧ Q (.bl true) H
def spNeedFlow : Sp := fun vs H Q _ => ∃ (f : Addr) (n m : Nat) (P : Nat → Pipe) (pa : Addr) (ad : Nat → Addr), vs = [.ref f] ∧ FlowAt H f n m P pa ad ∧ FlowOk n m P 1000 ∧ ∀ H', Same H H' → Q .non H'
/-- the first pipe on which a box lacks tokens -/
def lacksM (m : Nat) (P : Nat → Pipe) (s : Nat → Int) (box : Int) : Option Nat := (List.range m).find? fun k => decide ((P k).other = box) && decide (s k < (P k).eat)
def spLacks : Sp := fun vs H Q _ => ∃ (f sa : Addr) (box : Int) (n m : Nat) (P : Nat → Pipe) (s : Nat → Int) (pa : Addr) (ad : Nat → Addr), vs = [.ref f, .ref sa, .int box] ∧ FlowAt H f n m P pa ad ∧ H sa = some (.tup (itab m s)) ∧ m ≤ 1000 ∧
  ∀ H', Same H H' → (canM m P s box = true → Q .non H') ∧ (canM m P s box = false → ∀ k : Nat, Q (.int k) H')
def spNeedRoom : Sp := fun vs H Q _ => ∃ (f ra : Addr) (n m : Nat) (P : Nat → Pipe) (rm : Nat → Int) (pa : Addr) (ad : Nat → Addr), vs = [.ref f, .ref ra] ∧ FlowAt H f n m P pa ad ∧ FlowOk n m P 1000 ∧ H ra = some (.tup (itab m rm)) ∧ (∀ k, k < m → (P k).start ≤ rm k ∧ rm k ≤ 99999) ∧ ∀ H', Same H H' → Q .non H'
/-- a step of looped code -/
def Stp.Ok : Stp → Prop
  | .fire b => 0 ≤ b ∧ b ≤ 7
  | .rep t => 2 ≤ t ∧ t ≤ 999
  | .again => True
def spIsStep : Sp := fun vs H Q _ => ∃ (a : Addr) (c : Stp), vs = [.ref a] ∧ H a = some (.tup c.vs) ∧ c.Ok ∧ ∀ H', Same H H' → Q (.bl true) H'
def spLoopOf : Sp := fun vs H Q _ => ∃ (a : Addr) (l : Lp) (ad : Nat → Addr), vs = [.ref a] ∧ CodeAt H a l.code ad ∧ l.Ok 8 ∧ l.size ≤ 2000 ∧ ∀ v H', Same H H' → Q v H'
/-- walk: the places of the firing steps, in the order of the firings -/
def spWalk : Sp := fun vs H Q _ => ∃ (a : Addr) (l : Lp) (ad : Nat → Addr), vs = [.ref a] ∧ CodeAt H a l.code ad ∧ l.Ok 8 ∧ l.size ≤ 2000 ∧
  ∀ (p : Addr) (is : List Nat) (H' : Hp), Same H H' → H p = none → H' p = some (.lst (is.map fun (i : Nat) => V.int i)) → is.length = l.unr.length → (∀ (k i : Nat) (b : Int), is[k]? = some i → l.unr[k]? = some b → l.code[i]? = some (.fire b)) → Q (.ref p) H'
def spNeedAll : Sp := fun vs H Q _ => ∃ (f ca ra : Addr) (n m : Nat) (P : Nat → Pipe) (rm : Nat → Int) (l : Lp) (pa : Addr) (ad cad : Nat → Addr), vs = [.ref f, .ref ca, .ref ra] ∧ FlowAt H f n m P pa ad ∧ FlowOk n m P 1000 ∧ CodeAt H ca l.code cad ∧ l.Ok 8 ∧ l.size ≤ 2000 ∧
  H ra = some (.tup (itab m rm)) ∧ (∀ k, k < m → (P k).start ≤ rm k ∧ rm k ≤ 99999) ∧ ∀ H', Same H H' → Q .non H'
/-- trace: the triples; or an error of the class at B whose own dict holds how many firings were done -/
def spTrace (B : Addr) : Sp := fun vs H Q E => ∃ (f ca ra : Addr) (n m : Nat) (P : Nat → Pipe) (rm : Nat → Int) (l : Lp) (pa : Addr) (ad cad : Nat → Addr), vs = [.ref f, .ref ca, .ref ra] ∧ FlowAt H f n m P pa ad ∧ FlowOk n m P 1000 ∧ CodeAt H ca l.code cad ∧ l.Ok 8 ∧ l.size ≤ 2000 ∧
  H ra = some (.tup (itab m rm)) ∧ (∀ k, k < m → (P k).start ≤ rm k ∧ rm k ≤ 99999) ∧
  let ts := cellsM n m P rm (fun k => (P k).start) (fun _ => 0) (fun k => (P k).start) l.unr
  (ts.length = l.unr.length → ∀ p xs H', Same H H' → H' p = some (.tup xs) → TripsIn H' xs ts → Q (.ref p) H') ∧
  (ts.length ≠ l.unr.length → ∀ d H', Same H H' → H' d = some (.xd [("index", .int ts.length)]) → E (.ref B) (some d) H')
end Rf
namespace Rf
open PySem PySem.Spec L2
/-! ### shares -/
/-- N by D is the count of box k by that of some box, in least terms -/
def Sh (c : Int → Int) (k : Int) (N D : Nat) : Prop := 1 ≤ N ∧ 1 ≤ D ∧ Nat.Coprime N D ∧ ∃ r : Int, (N : Int) * c r = D * c k
theorem Sh.one {c : Int → Int} {k : Int} : Sh c k 1 1 := ⟨Nat.le_refl _, Nat.le_refl _, Nat.coprime_one_left 1, k, rfl⟩
theorem Sh.le {c : Int → Int} {k : Int} {N D : Nat} (hc : ∀ b, 1 ≤ c b ∧ c b ≤ 4) (h : Sh c k N D) : N ≤ 4 ∧ D ≤ 4 := by
  obtain ⟨h1, h2, h3, r, h4⟩ := h
  obtain ⟨a, ha⟩ : ∃ a : Nat, c r = a := ⟨(c r).toNat, by have := hc r; omega⟩
  obtain ⟨b, hb⟩ : ∃ b : Nat, c k = b := ⟨(c k).toNat, by have := hc k; omega⟩
  have hr := hc r
  have hk := hc k
  rw [ha] at hr
  rw [hb] at hk
  rw [ha, hb] at h4
  have e : N * a = D * b := by exact_mod_cast h4
  have d1 : N ∣ b := h3.dvd_of_dvd_mul_left ⟨a, e.symm⟩
  have d2 : D ∣ a := h3.symm.dvd_of_dvd_mul_left ⟨b, e⟩
  exact ⟨Nat.le_trans (Nat.le_of_dvd (by omega) d1) (by omega), Nat.le_trans (Nat.le_of_dvd (by omega) d2) (by omega)⟩
theorem Sh.step {c : Int → Int} {k j : Int} {N D : Nat} {g e : Int} (h : Sh c k N D) (g1 : 1 ≤ g) (e1 : 1 ≤ e) (bal : g * c k = e * c j) (hc : ∀ b, 1 ≤ c b ∧ c b ≤ 4) :
    ∃ N' D' : Nat, (N : Int) * g / (Int.gcd ((N : Int) * g) ((D : Int) * e) : Nat) = N' ∧ (D : Int) * e / (Int.gcd ((N : Int) * g) ((D : Int) * e) : Nat) = D' ∧ Sh c j N' D' := by
  obtain ⟨h1, h2, h3, r, h4⟩ := h
  obtain ⟨g, rfl⟩ := Int.eq_ofNat_of_zero_le (show 0 ≤ g by omega)
  obtain ⟨e, rfl⟩ := Int.eq_ofNat_of_zero_le (show 0 ≤ e by omega)
  have hA : 1 ≤ N * g := Nat.mul_pos h1 (by omega)
  have hB : 1 ≤ D * e := Nat.mul_pos h2 (by omega)
  have eg : Int.gcd ((N : Int) * (g : Int)) ((D : Int) * (e : Int)) = Nat.gcd (N * g) (D * e) := by
    rw [← Int.natCast_mul, ← Int.natCast_mul]
    rfl
  rw [eg]
  have hG : 0 < Nat.gcd (N * g) (D * e) := Nat.gcd_pos_of_pos_left _ hA
  obtain ⟨N', eN⟩ := Nat.gcd_dvd_left (N * g) (D * e)
  obtain ⟨D', eD⟩ := Nat.gcd_dvd_right (N * g) (D * e)
  have cp : Nat.Coprime (N * g / Nat.gcd (N * g) (D * e)) (D * e / Nat.gcd (N * g) (D * e)) := Nat.coprime_div_gcd_div_gcd hG
  generalize Nat.gcd (N * g) (D * e) = G at *
  have qN : N * g / G = N' := by rw [eN]; exact Nat.mul_div_cancel_left _ hG
  have qD : D * e / G = D' := by rw [eD]; exact Nat.mul_div_cancel_left _ hG
  rw [qN, qD] at cp
  have n1 : 1 ≤ N' := by
    rcases Nat.eq_zero_or_pos N' with z | z
    · rw [z, Nat.mul_zero] at eN
      omega
    · exact z
  have n2 : 1 ≤ D' := by
    rcases Nat.eq_zero_or_pos D' with z | z
    · rw [z, Nat.mul_zero] at eD
      omega
    · exact z
  refine ⟨N', D', ?_, ?_, n1, n2, cp, r, ?_⟩
  · rw [← Int.natCast_mul, ← Int.natCast_ediv, qN]
  · rw [← Int.natCast_mul, ← Int.natCast_ediv, qD]
  · have e1 : (G : Int) * ((N' : Int) * c r) = (G : Int) * ((D' : Int) * c j) := by
      have x1 : (G : Int) * N' = (N : Int) * g := by exact_mod_cast eN.symm
      have x2 : (G : Int) * D' = (D : Int) * e := by exact_mod_cast eD.symm
      calc (G : Int) * ((N' : Int) * c r) = ((G : Int) * N') * c r := (Int.mul_assoc ..).symm
        _ = (N : Int) * g * c r := by rw [x1]
        _ = g * ((N : Int) * c r) := by rw [Int.mul_comm (N : Int) g, Int.mul_assoc]
        _ = g * ((D : Int) * c k) := by rw [h4]
        _ = (D : Int) * (g * c k) := by rw [← Int.mul_assoc, Int.mul_comm (g : Int) D, Int.mul_assoc]
        _ = (D : Int) * (e * c j) := by rw [bal]
        _ = (D : Int) * e * c j := (Int.mul_assoc ..).symm
        _ = ((G : Int) * D') * c j := by rw [x2]
        _ = (G : Int) * ((D' : Int) * c j) := Int.mul_assoc ..
    exact Int.eq_of_mul_eq_mul_left (by omega) e1
/-- the numbers by which 12 can be divided -/
def D12 (b : Nat) : Prop := b = 1 ∨ b = 2 ∨ b = 3 ∨ b = 4 ∨ b = 6 ∨ b = 12
theorem d12_le {b : Nat} (h : D12 b) : 1 ≤ b ∧ b ≤ 12 := by
  unfold D12 at h
  omega
theorem d12_lcm {b d : Nat} (h : D12 b) (h1 : 1 ≤ d) (h4 : d ≤ 4) : ∃ b' : Nat, (b : Int) * d / (Int.gcd b d : Nat) = b' ∧ D12 b' ∧ b ∣ b' ∧ d ∣ b' ∧ 1 ≤ Int.gcd b d ∧ Int.gcd b d ≤ 4 := by
  obtain rfl | rfl | rfl | rfl : d = 1 ∨ d = 2 ∨ d = 3 ∨ d = 4 := by omega
  all_goals
    obtain rfl | rfl | rfl | rfl | rfl | rfl := h
  all_goals first
    | exact ⟨1, by decide, by unfold D12; decide, by decide, by decide, by decide, by decide⟩
    | exact ⟨2, by decide, by unfold D12; decide, by decide, by decide, by decide, by decide⟩
    | exact ⟨3, by decide, by unfold D12; decide, by decide, by decide, by decide, by decide⟩
    | exact ⟨4, by decide, by unfold D12; decide, by decide, by decide, by decide, by decide⟩
    | exact ⟨6, by decide, by unfold D12; decide, by decide, by decide, by decide, by decide⟩
    | exact ⟨12, by decide, by unfold D12; decide, by decide, by decide, by decide, by decide⟩
theorem d12_val {b N D : Nat} (h : D12 b) (d : D ∣ b) (n1 : 1 ≤ N) (n4 : N ≤ 4) (d1 : 1 ≤ D) : ∃ v : Nat, (b : Int) * N / D = v ∧ 1 ≤ v ∧ v ≤ 48 := by
  obtain ⟨q, rfl⟩ := d
  have hb := d12_le h
  have q1 : 1 ≤ q := by
    rcases Nat.eq_zero_or_pos q with z | z
    · rw [z, Nat.mul_zero] at hb
      omega
    · exact z
  have q2 : q ≤ 12 := Nat.le_trans (Nat.le_mul_of_pos_left q d1) hb.2
  refine ⟨q * N, ?_, Nat.mul_pos q1 n1, Nat.le_trans (Nat.mul_le_mul q2 n4) (by decide)⟩
  rw [← Int.natCast_mul, ← Int.natCast_ediv, Nat.mul_assoc, Nat.mul_div_cancel_left _ d1]
end Rf
namespace Rf
open PySem PySem.Spec L2
namespace Lp
theorem ok_box {d : Nat} {b : Int} {r : Lp} (h : Ok d (.box b r)) : 0 ≤ b ∧ b ≤ 7 ∧ Ok d r := by
  unfold Ok at h
  exact h
theorem box_ok {d : Nat} {b : Int} {r : Lp} (h : 0 ≤ b ∧ b ≤ 7 ∧ Ok d r) : Ok d (.box b r) := by
  unfold Ok
  exact h
theorem ok_rep {d : Nat} {t : Int} {body r : Lp} (h : Ok d (.rep t body r)) : ∃ e, d = e + 1 ∧ 2 ≤ t ∧ t ≤ 999 ∧ body ≠ .nil ∧ Ok e body ∧ Ok d r := by
  cases d with
  | zero =>
    unfold Ok at h
    exact h.elim
  | succ e =>
    unfold Ok at h
    exact ⟨e, rfl, h⟩
theorem rep_ok {e : Nat} {t : Int} {body r : Lp} (h : 2 ≤ t ∧ t ≤ 999 ∧ body ≠ .nil ∧ Ok e body ∧ Ok (e + 1) r) : Ok (e + 1) (.rep t body r) := by
  unfold Ok
  exact h
theorem nil_ok {d : Nat} : Ok d .nil := by
  cases d <;> (unfold Ok; trivial)
theorem Ok.up : ∀ {l : Lp} {d : Nat}, l.Ok d → l.Ok (d + 1)
  | .nil, _, _ => nil_ok
  | .box _ _, _, h => box_ok ⟨(ok_box h).1, (ok_box h).2.1, Ok.up (ok_box h).2.2⟩
  | .rep t body r, d, h => by
    obtain ⟨e, rfl, h1, h2, h3, h4, h5⟩ := ok_rep h
    exact rep_ok ⟨h1, h2, h3, Ok.up h4, Ok.up h5⟩
theorem Ok.to {l : Lp} {d e : Nat} (h : l.Ok d) (i : d ≤ e) : l.Ok e := by
  obtain ⟨k, rfl⟩ := Nat.exists_eq_add_of_le i
  clear i
  induction k with
  | zero => exact h
  | succ k ih => exact ih.up
def tl : Lp → Lp
  | .nil => .nil
  | .box _ r => r
  | .rep _ _ r => r
/-- without the first i items -/
def drop : Nat → Lp → Lp
  | 0, l => l
  | i + 1, l => (drop i l).tl
def isNil : Lp → Bool
  | .nil => true
  | _ => false
theorem isNil_t {l : Lp} (h : l.isNil = true) : l = .nil := by
  cases l with
  | nil => rfl
  | box b r => cases h
  | rep t body r => cases h
theorem isNil_f {l : Lp} (h : l.isNil = false) : l ≠ .nil := by
  rintro rfl
  cases h
theorem At.tl {H : Hp} {l : Lp} {xs : List V} (h : l.At H xs) : l.tl.At H xs.tail := by
  cases l with
  | nil =>
    rw [show xs = [] from h]
    exact rfl
  | box b r =>
    obtain ⟨ys, rfl, h⟩ := h
    exact h
  | rep t body r =>
    obtain ⟨p, q, zs, ys, rfl, _, _, _, h⟩ := h
    exact h
theorem At.drop {H : Hp} {l : Lp} {xs : List V} (h : l.At H xs) : ∀ i, (l.drop i).At H (xs.drop i)
  | 0 => h
  | i + 1 => by
    have q := (At.drop h i).tl
    rw [List.tail_drop] at q
    exact q
theorem at_nil {H : Hp} {l : Lp} (h : l.At H []) : l = .nil := by
  cases l with
  | nil => rfl
  | box b r =>
    obtain ⟨ys, h, _⟩ := h
    cases h
  | rep t body r =>
    obtain ⟨p, q, zs, ys, h, _⟩ := h
    cases h
/-- behind the last item -/
theorem At.done {H : Hp} {l : Lp} {xs : List V} (h : l.At H xs) : l.drop xs.length = .nil := by
  have q := h.drop xs.length
  rw [List.drop_length] at q
  exact at_nil q
/-- the i-th item -/
theorem At.item {H : Hp} {l : Lp} {xs : List V} {i : Nat} {x : V} (h : l.At H xs) (hx : xs[i]? = some x) :
    (∃ b, l.drop i = .box b (l.drop (i + 1)) ∧ x = .int b) ∨ ∃ t body p q zs, l.drop i = .rep t body (l.drop (i + 1)) ∧ x = .ref p ∧ H p = some (.tup [.int t, .ref q]) ∧ H q = some (.tup zs) ∧ body.At H zs := by
  have q := h.drop i
  obtain ⟨hi, hx'⟩ := List.getElem?_eq_some_iff.mp hx
  rw [List.drop_eq_getElem_cons hi, hx'] at q
  have e : l.drop (i + 1) = (l.drop i).tl := rfl
  rw [e]
  generalize l.drop i = m at q
  cases m with
  | nil => cases q
  | box b r =>
    obtain ⟨ys, h, _⟩ := q
    cases h
    exact .inl ⟨b, rfl, rfl⟩
  | rep t body r =>
    obtain ⟨p, q, zs, ys, h, h2, h3, h4, _⟩ := q
    cases h
    exact .inr ⟨t, body, p, q, zs, rfl, rfl, h2, h3, h4⟩
theorem ok_tl {d : Nat} {l : Lp} (h : l.Ok d) : l.tl.Ok d := by
  cases l with
  | nil => exact h
  | box b r => exact (ok_box h).2.2
  | rep t body r =>
    obtain ⟨_, _, _, _, _, _, h⟩ := ok_rep h
    exact h
theorem ok_drop {d : Nat} {l : Lp} (h : l.Ok d) : ∀ i, (l.drop i).Ok d
  | 0 => h
  | i + 1 => ok_tl (ok_drop h i)
theorem size_tl (l : Lp) : l.tl.size ≤ l.size := by
  cases l with
  | nil => exact Nat.le_refl _
  | box b r => exact Nat.le_add_left _ _
  | rep t body r => exact Nat.le_add_left _ _
theorem size_drop (l : Lp) : ∀ i, (l.drop i).size ≤ l.size
  | 0 => Nat.le_refl _
  | i + 1 => Nat.le_trans (size_tl _) (size_drop l i)
theorem unr_len : ∀ l : Lp, l.unr.length = l.size
  | .nil => rfl
  | .box _ r => by
    show r.unr.length + 1 = 1 + r.size
    rw [unr_len r]
    exact Nat.add_comm _ _
  | .rep t body r => by
    show ((List.replicate t.toNat body.unr).flatten ++ r.unr).length = _
    rw [List.length_append, unr_len r, List.length_flatten, List.map_replicate, List.sum_replicate_nat, unr_len body]
    rfl
theorem size_pos {d : Nat} : ∀ {l : Lp}, l.Ok d → l ≠ .nil → 1 ≤ l.size
  | .nil, _, h => absurd rfl h
  | .box _ r, _, _ => Nat.le_add_right _ _
  | .rep t body r, h, _ => by
    obtain ⟨e, _, t2, _, hn, hb, _⟩ := ok_rep h
    have hs := size_pos hb hn
    show 1 ≤ t.toNat * body.size + r.size
    have : 1 ≤ t.toNat * body.size := Nat.mul_pos (by omega) hs
    omega
/-- a stretch's firings are those of the whole at most -/
theorem size_body {t : Int} {body r : Lp} (t2 : 2 ≤ t) : 2 * body.size ≤ (rep t body r).size := by
  show 2 * body.size ≤ t.toNat * body.size + r.size
  have : 2 * body.size ≤ t.toNat * body.size := Nat.mul_le_mul_right _ (by omega)
  omega
theorem code_len {d : Nat} : ∀ {l : Lp}, l.Ok d → l.code.length ≤ 3 * l.size
  | .nil, _ => Nat.le_refl _
  | .box _ r, h => by
    have := code_len (ok_box h).2.2
    show r.code.length + 1 ≤ 3 * (1 + r.size)
    omega
  | .rep t body r, h => by
    obtain ⟨e, _, t2, _, hn, hb, hr⟩ := ok_rep h
    have h1 := code_len hb
    have h2 := code_len hr
    have h3 := size_pos hb hn
    have h4 : 2 * body.size ≤ t.toNat * body.size := Nat.mul_le_mul_right _ (by omega)
    show (body.code ++ .again :: r.code).length + 1 ≤ 3 * (t.toNat * body.size + r.size)
    rw [List.length_append, List.length_cons]
    omega
theorem len_le {d : Nat} : ∀ {l : Lp}, l.Ok d → l.len ≤ l.size
  | .nil, _ => Nat.le_refl _
  | .box _ r, h => by
    have := len_le (ok_box h).2.2
    show 1 + r.len ≤ 1 + r.size
    omega
  | .rep t body r, h => by
    obtain ⟨e, _, t2, _, hn, hb, hr⟩ := ok_rep h
    have h2 := len_le hr
    have h3 := size_pos hb hn
    have h4 : 2 * body.size ≤ t.toNat * body.size := Nat.mul_le_mul_right _ (by omega)
    show 1 + r.len ≤ t.toNat * body.size + r.size
    omega
/-- the data of looped code, as the comparison wants it -/
theorem dp {K : PySem.W.Frag} {H : Hp} : ∀ {l : Lp} {d : Nat} {xs : List V}, l.At H xs → l.Ok d → ∃ ds, DpAll K H xs ds ∧ PyData.canLayAll0 ds = true ∧ PyData.depthAll ds ≤ 2 * d ∧ ds.isEmpty = l.isNil
  | .nil, d, xs, h, _ => ⟨[], by rw [show xs = [] from h]; exact .nil, by simp [PyData.canLayAll0], by simp [PyData.depthAll], rfl⟩
  | .box b r, d, xs, ⟨ys, h1, h2⟩, ho => by
    obtain ⟨ds, a1, a2, a3, a4⟩ := dp (K := K) h2 (ok_box ho).2.2
    subst h1
    exact ⟨.int b :: ds, .cons (.int b) a1, by simp [PyData.canLayAll0, PyData.canLay0, a2], by simp [PyData.depthAll, PyData.depth]; omega, rfl⟩
  | .rep t body r, d, xs, ⟨p, q, zs, ys, h1, h2, h3, h4, h5⟩, ho => by
    obtain ⟨e, rfl, _, _, _, hb, hr⟩ := ok_rep ho
    obtain ⟨ds, a1, a2, a3, a4⟩ := dp (K := K) h5 hr
    obtain ⟨es, b1, b2, b3, b4⟩ := dp (K := K) h4 hb
    subst h1
    refine ⟨.tuple [.int t, .tuple es] :: ds, .cons (.tup (SqT.of h2) (.cons (.int t) (.cons (.tup (SqT.of h3) b1) .nil))) a1, ?_, ?_, rfl⟩
    · simp [PyData.canLayAll0, PyData.canLay0, a2, b2]
    · simp [PyData.depthAll, PyData.depth]
      omega
end Lp
/-- looped code against () -/
theorem st_neLp {K : PySem.W.Frag} {H : Hp} {a b : Addr} {l : Lp} {d : Nat} {Q : VK} (h : LoopAt H a l) (ho : l.Ok d) (hd : d ≤ 20) (hb : H b = some (.tup [])) (q : Q (.bl (!l.isNil)) H) : rNeD K (.ref a) (.ref b) H Q := by
  obtain ⟨xs, h1, h2⟩ := h
  obtain ⟨ds, a1, a2, a3, a4⟩ := Lp.dp (K := K) h2 ho
  refine ⟨.tuple ds, .tuple [], .tup (SqT.of h1) a1, .tup (SqT.of hb) .nil, sh_tuple a2 (by omega), sh_tuple (by simp [PyData.canLayAll0]) (by simp [PyData.depthAll]), ?_⟩
  rw [PyData.eqv, eqv_nil, a4]
  exact q
/-- a list of looped code's items against [] -/
theorem st_eqLpL {K : PySem.W.Frag} {H : Hp} {a b : Addr} {xs : List V} {l : Lp} {d : Nat} {Q : VK} (h1 : H a = some (.lst xs)) (h2 : l.At H xs) (ho : l.Ok d) (hd : d ≤ 20) (hb : H b = some (.lst [])) (q : Q (.bl l.isNil) H) : rEqD K (.ref a) (.ref b) H Q := by
  obtain ⟨ds, a1, a2, a3, a4⟩ := Lp.dp (K := K) h2 ho
  refine ⟨.list ds, .list [], .lst (SqL.of h1) a1, .lst (SqL.of hb) .nil, sh_list a2 (by omega), sh_list (by simp [PyData.canLayAll0]) (by simp [PyData.depthAll]), ?_⟩
  rw [PyData.eqv, eqv_nil, a4]
  exact q
/-- steps as they stand in a tuple -/
def StpsIn (H : Hp) (xs : List V) (cs : List Stp) : Prop := ∃ ad : Nat → Addr, xs = tab cs.length (fun k => .ref (ad k)) ∧ ∀ k c, cs[k]? = some c → H (ad k) = some (.tup c.vs)
theorem StpsIn.ts {H H' : Hp} {xs : List V} {cs : List Stp} (h : StpsIn H xs cs) (e : Ts H H') : StpsIn H' xs cs := by
  obtain ⟨ad, h1, h2⟩ := h
  exact ⟨ad, h1, fun k c q => e _ _ (h2 k c q)⟩
theorem StpsIn.nil {H : Hp} : StpsIn H [] [] := ⟨fun _ => 0, rfl, fun k c q => by cases q⟩
theorem StpsIn.one {H : Hp} {p : Addr} {c : Stp} (h : H p = some (.tup c.vs)) : StpsIn H [.ref p] [c] := ⟨fun _ => p, rfl, fun k c' q => by
  cases k with
  | zero =>
    cases q
    exact h
  | succ k => cases q⟩
theorem StpsIn.app {H : Hp} {xs ys : List V} {cs ds : List Stp} (h : StpsIn H xs cs) (h' : StpsIn H ys ds) : StpsIn H (xs ++ ys) (cs ++ ds) := by
  obtain ⟨ad, h1, h2⟩ := h
  obtain ⟨bd, g1, g2⟩ := h'
  refine ⟨fun k => if k < cs.length then ad k else bd (k - cs.length), ?_, fun k c q => ?_⟩
  · subst h1 g1
    apply List.ext_getElem?
    intro i
    rw [List.getElem?_append, tab_len]
    by_cases hi : i < cs.length
    · rw [if_pos hi, tab_get hi, tab_get (by rw [List.length_append]; omega)]
      show _ = some (V.ref (if i < cs.length then ad i else bd (i - cs.length)))
      rw [if_pos hi]
    · rw [if_neg hi]
      by_cases hj : i - cs.length < ds.length
      · rw [tab_get hj, tab_get (by rw [List.length_append]; omega)]
        show _ = some (V.ref (if i < cs.length then ad i else bd (i - cs.length)))
        rw [if_neg hi]
      · rw [List.getElem?_eq_none_iff.mpr (by rw [tab_len]; omega), List.getElem?_eq_none_iff.mpr (by rw [tab_len, List.length_append]; omega)]
  · show H (if k < cs.length then ad k else bd (k - cs.length)) = _
    rw [List.getElem?_append] at q
    by_cases hk : k < cs.length
    · rw [if_pos hk] at q ⊢
      exact h2 k c q
    · rw [if_neg hk] at q ⊢
      exact g2 _ c q
/-! ### objects as they stand in a list or tuple -/
def Ins {α : Type} (R : Addr → α → Prop) (xs : List V) (ts : List α) : Prop := ∃ ad : Nat → Addr, xs = tab ts.length (fun k => .ref (ad k)) ∧ ∀ k t, ts[k]? = some t → R (ad k) t
section
variable {α : Type} {R R' : Addr → α → Prop} {xs : List V} {ts : List α}
theorem Ins.len (h : Ins R xs ts) : xs.length = ts.length := by
  obtain ⟨ad, h, _⟩ := h
  rw [h, tab_len]
theorem Ins.imp (h : Ins R xs ts) (i : ∀ a t, R a t → R' a t) : Ins R' xs ts := by
  obtain ⟨ad, h1, h2⟩ := h
  exact ⟨ad, h1, fun k t q => i _ _ (h2 k t q)⟩
theorem Ins.nil : Ins R [] [] := ⟨fun _ => 0, rfl, fun k t q => by cases q⟩
theorem Ins.snoc {p : Addr} {t : α} (h : Ins R xs ts) (hp : R p t) : Ins R (xs ++ [.ref p]) (ts ++ [t]) := by
  obtain ⟨ad, rfl, h2⟩ := h
  refine ⟨ext ad ts.length p, ?_, fun k u q => ?_⟩
  · rw [tab_ext V.ref, List.length_append]
    rfl
  · rw [List.getElem?_append] at q
    by_cases hk : k < ts.length
    · rw [if_pos hk] at q
      rw [ext_ne (Nat.ne_of_lt hk)]
      exact h2 k u q
    · rw [if_neg hk] at q
      obtain rfl : k = ts.length := by
        have := (List.getElem?_eq_some_iff.mp q).1
        simp at this
        omega
      rw [Nat.sub_self] at q
      cases q
      rw [ext_same]
      exact hp
end
def PairIs (H : Hp) (a : Addr) (p : Nat × Int) : Prop := H a = some (.tup [.int p.1, .int p.2])
theorem pairs_at {H : Hp} {a : Addr} {xs : List V} {ps : List (Nat × Int)} (h : Ins (PairIs H) xs ps) (ha : H a = some (.tup xs)) : PairsAt H a ps := by
  obtain ⟨ad, h1, h2⟩ := h
  exact ⟨ad, by rw [ha, h1], h2⟩
theorem pairs_ts {H H' : Hp} {xs : List V} {ps : List (Nat × Int)} (h : Ins (PairIs H) xs ps) (e : Ts H H') : Ins (PairIs H') xs ps := h.imp fun _ _ q => e _ _ q
theorem trips_nil {H : Hp} : TripsIn H [] [] := Ins.nil
theorem TripsIn.snoc {H : Hp} {p : Addr} {t : Trip} {xs : List V} {ts : List Trip} (h : TripsIn H xs ts) (hp : TripAt H p t) : TripsIn H (xs ++ [.ref p]) (ts ++ [t]) := Ins.snoc (R := TripAt H) h hp
theorem TripsIn.len {H : Hp} {xs : List V} {ts : List Trip} (h : TripsIn H xs ts) : xs.length = ts.length := Ins.len (R := TripAt H) h
/-- a module's number -/
def Cn (mg : Str → Option Value) (x : Str) (n : Int) : Prop := ∃ t, mg x = some (.int n t)
/-- a def that never runs -/
theorem fn_no {P : Program} {w : World} {K : PySem.W.Frag} {mg : Str → Option Value} {base : Heap} {CX : CXT} {k : Nat} {f : Addr} {fd : FuncData} {ps : List Str} {sp : Sp} (no : ∀ vs H Q E, ¬ sp vs H Q E) : FnOk P w K mg base CX k f fd ps sp :=
  ⟨fun vs H Q E h => absurd h (no vs H Q E), fun A outer s H args us vs Q E _ _ _ _ h => absurd h (no vs H Q E)⟩
end Rf
namespace Rf
open PySem PySem.Spec L2
namespace Lp
theorem app_assoc (y z : Lp) : ∀ x : Lp, (x.app y).app z = x.app (y.app z)
  | .nil => rfl
  | .box b r => congrArg (Lp.box b) (app_assoc y z r)
  | .rep t body r => congrArg (Lp.rep t body) (app_assoc y z r)
theorem app_nil : ∀ x : Lp, x.app .nil = x
  | .nil => rfl
  | .box b r => congrArg (Lp.box b) (app_nil r)
  | .rep t body r => congrArg (Lp.rep t body) (app_nil r)
theorem ok_app_r {d : Nat} {y : Lp} : ∀ {x : Lp}, (x.app y).Ok d → y.Ok d
  | .nil, h => h
  | .box b r, h => ok_app_r (x := r) (ok_box h).2.2
  | .rep t body r, h => by
    have h' : (Lp.rep t body (r.app y)).Ok d := h
    obtain ⟨_, _, _, _, _, _, h5⟩ := ok_rep h'
    exact ok_app_r h5
/-- a place within looped code: the frames around it, the nearest first: how often the stretch, what stands ahead of it, what behind it -/
def plug : Lp → List (Int × Lp × Lp) → Lp
  | b, [] => b
  | b, (t, x, y) :: fs => plug (x.app (.rep t b y)) fs
theorem plug_ok {d : Nat} : ∀ {fs : List (Int × Lp × Lp)} {b : Lp}, (plug b fs).Ok d → (∃ e, b.Ok e ∧ e + fs.length ≤ d) ∧ b.size ≤ (plug b fs).size
  | [], _, h => ⟨⟨d, h, Nat.le_refl _⟩, Nat.le_refl _⟩
  | (t, x, y) :: fs, b, h => by
    obtain ⟨⟨e, h1, h3⟩, h2⟩ := plug_ok (fs := fs) (b := x.app (.rep t b y)) h
    obtain ⟨e', rfl, t2, t9, hn, hb, hr⟩ := ok_rep (ok_app_r h1)
    refine ⟨⟨e', hb, by rw [List.length_cons]; omega⟩, Nat.le_trans ?_ h2⟩
    rw [size_app]
    have := size_body (body := b) (r := y) t2
    omega
/-- what stands for the nearest frame -/
theorem plug_top {d : Nat} {t : Int} {x y b : Lp} {fs : List (Int × Lp × Lp)} (h : (plug b ((t, x, y) :: fs)).Ok d) : 2 ≤ t ∧ t ≤ 999 ∧ b ≠ .nil := by
  obtain ⟨⟨e, h1, _⟩, _⟩ := plug_ok (fs := fs) (b := x.app (.rep t b y)) h
  obtain ⟨e, rfl, t2, t9, hn, hb, hr⟩ := ok_rep (ok_app_r h1)
  exact ⟨t2, t9, hn⟩
/-- the code that is still to be read -/
def tail : List (Int × Lp × Lp) → List Stp
  | [] => []
  | (_, _, y) :: fs => .again :: (y.code ++ tail fs)
theorem ok_app_l {d : Nat} {y : Lp} : ∀ {x : Lp}, (x.app y).Ok d → x.Ok d
  | .nil, _ => nil_ok
  | .box b r, h => box_ok ⟨(ok_box h).1, (ok_box h).2.1, ok_app_l (x := r) (ok_box h).2.2⟩
  | .rep t body r, h => by
    have h' : (Lp.rep t body (r.app y)).Ok d := h
    obtain ⟨e, rfl, h1, h2, h3, h4, h5⟩ := ok_rep h'
    exact rep_ok ⟨h1, h2, h3, h4, ok_app_l h5⟩
theorem code_ok {c : Stp} : ∀ {l : Lp} {d : Nat}, l.Ok d → c ∈ l.code → c.Ok
  | .nil, _, _, h => by cases h
  | .box b r, _, o, h => by
    rcases List.mem_cons.mp (show c ∈ Stp.fire b :: r.code from h) with rfl | h
    · exact ⟨(ok_box o).1, (ok_box o).2.1⟩
    · exact code_ok (ok_box o).2.2 h
  | .rep t body r, _, o, h => by
    obtain ⟨e, rfl, h1, h2, h3, h4, h5⟩ := ok_rep o
    rcases List.mem_cons.mp (show c ∈ Stp.rep t :: (body.code ++ .again :: r.code) from h) with rfl | h
    · exact ⟨h1, h2⟩
    · rcases List.mem_append.mp h with h | h
      · exact code_ok h4 h
      · rcases List.mem_cons.mp h with rfl | h
        · trivial
        · exact code_ok h5 h
/-! ### the run -/
/-- frames of a run: the place of the stretch's first step, the turns left (this one counts), the stretch, what stands behind it -/
abbrev Fr := Nat × Nat × Lp × Lp
def tailW : List Fr → List Stp
  | [] => []
  | (_, _, _, y) :: fs => .again :: (y.code ++ tailW fs)
def unrW : List Fr → List Int
  | [] => []
  | (_, c, b, y) :: fs => (List.replicate (c - 1) b.unr).flatten ++ (y.unr ++ unrW fs)
def cost : Lp → Nat
  | .nil => 0
  | .box _ r => 1 + cost r
  | .rep t body r => 1 + t.toNat * (cost body + 1) + cost r
def costW : List Fr → Nat
  | [] => 0
  | (_, c, b, y) :: fs => 1 + (c - 1) * (cost b + 1) + (cost y + costW fs)
/-- the frames fit the code; d: how deep the stretches at hand may still be -/
def FrOk (code : List Stp) : Nat → List Fr → Prop
  | d, [] => d = 8
  | d, (p, c, b, y) :: fs => 1 ≤ c ∧ c ≤ 999 ∧ b.Ok d ∧ y.Ok (d + 1) ∧ code.drop (p + 1) = b.code ++ .again :: (y.code ++ tailW fs) ∧ FrOk code (d + 1) fs
theorem FrOk.len {code : List Stp} : ∀ {fs : List Fr} {d : Nat}, FrOk code d fs → fs.length + d = 8
  | [], d, h => by
    show 0 + d = 8
    rw [show d = 8 from h]
  | (p, c, b, y) :: fs, d, h => by
    obtain ⟨_, _, _, _, _, h⟩ := h
    have := FrOk.len h
    show fs.length + 1 + d = 8
    omega
end Lp
/-! ### stacks of lists -/
/-- a stack of two-item lists, the frames from the top down, each seen by G; A: the addresses that it stands on -/
def StkAt {α : Type} (G : Hp → Addr → α → List Addr → Prop) (H : Hp) : List α → List V → List Addr → Prop
  | [], ss, A => ss = [] ∧ A = []
  | f :: fs, ss, A => ∃ (a : Addr) (B A' : List Addr) (ss' : List V), ss = ss' ++ [.ref a] ∧ A = B ++ A' ∧ G H a f B ∧ StkAt G H fs ss' A'
theorem StkAt.keep {α : Type} {G : Hp → Addr → α → List Addr → Prop} {H H' : Hp} (kG : ∀ a f B, (∀ x ∈ B, ∀ o, H x = some o → H' x = some o) → G H a f B → G H' a f B) :
    ∀ {fs : List α} {ss : List V} {A : List Addr}, (∀ x ∈ A, ∀ o, H x = some o → H' x = some o) → StkAt G H fs ss A → StkAt G H' fs ss A
  | [], _, _, _, h => h
  | f :: fs, ss, A, k, h => by
    obtain ⟨a, B, A', ss', h1, h2, h3, h4⟩ := h
    subst h2
    exact ⟨a, B, A', ss', h1, rfl, kG a f B (fun x hx => k x (List.mem_append.mpr (.inl hx))) h3, StkAt.keep kG (fun x hx => k x (List.mem_append.mpr (.inr hx))) h4⟩
theorem StkAt.top {α : Type} {G : Hp → Addr → α → List Addr → Prop} {H : Hp} {f : α} {fs : List α} {ss : List V} {A : List Addr} (h : StkAt G H (f :: fs) ss A) :
    ∃ (a : Addr) (B A' : List Addr) (ss' : List V), ss = ss' ++ [.ref a] ∧ A = B ++ A' ∧ G H a f B ∧ StkAt G H fs ss' A' := h
theorem StkAt.len {α : Type} {G : Hp → Addr → α → List Addr → Prop} {H : Hp} : ∀ {fs : List α} {ss : List V} {A : List Addr}, StkAt G H fs ss A → ss.length = fs.length
  | [], _, _, h => by rw [h.1]; rfl
  | f :: fs, ss, A, h => by
    obtain ⟨a, B, A', ss', h1, h2, h3, h4⟩ := h
    rw [h1, List.length_append, h4.len]
    rfl
/-- a frame of loop_of's stack: how often, the items so far -/
def FrG (H : Hp) (a : Addr) (f : V × Lp) (B : List Addr) : Prop := ∃ b xs, B = [a, b] ∧ H a = some (.lst [f.1, .ref b]) ∧ H b = some (.lst xs) ∧ f.2.At H xs
theorem FrG.keep {H H' : Hp} (t : Ts H H') (a : Addr) (f : V × Lp) (B : List Addr) (k : ∀ x ∈ B, ∀ o, H x = some o → H' x = some o) (h : FrG H a f B) : FrG H' a f B := by
  obtain ⟨b, xs, h1, h2, h3, h4⟩ := h
  subst h1
  exact ⟨b, xs, rfl, k a (by simp) _ h2, k b (by simp) _ h3, h4.ts t⟩
theorem StkAt.some {α : Type} {G : Hp → Addr → α → List Addr → Prop} {H : Hp} (gs : ∀ a f B, G H a f B → ∀ x ∈ B, H x ≠ none) : ∀ {fs : List α} {ss : List V} {A : List Addr}, StkAt G H fs ss A → ∀ x ∈ A, H x ≠ none
  | [], _, _, h, x, hx => by
    rw [h.2] at hx
    cases hx
  | f :: fs, ss, A, h, x, hx => by
    obtain ⟨a, B, A', ss', h1, h2, h3, h4⟩ := h
    rw [h2] at hx
    rcases List.mem_append.mp hx with hx | hx
    · exact gs a f B h3 x hx
    · exact StkAt.some gs h4 x hx
theorem FrG.some {H : Hp} (a : Addr) (f : V × Lp) (B : List Addr) (h : FrG H a f B) (x : Addr) (hx : x ∈ B) : H x ≠ none := by
  obtain ⟨b, xs, rfl, h2, h3, _⟩ := h
  have : x = a ∨ x = b := by simpa using hx
  rcases this with rfl | rfl
  · rw [h2]
    exact fun z => by cases z
  · rw [h3]
    exact fun z => by cases z
/-- a frame of walk's stack -/
def WkG (H : Hp) (a : Addr) (f : Lp.Fr) (B : List Addr) : Prop := B = [a] ∧ H a = some (.lst [.int f.1, .int f.2.1])
theorem WkG.keep {H H' : Hp} (a : Addr) (f : Lp.Fr) (B : List Addr) (k : ∀ x ∈ B, ∀ o, H x = some o → H' x = some o) (h : WkG H a f B) : WkG H' a f B := by
  obtain ⟨rfl, h2⟩ := h
  exact ⟨rfl, k a (by simp) _ h2⟩
theorem WkG.some {H : Hp} (a : Addr) (f : Lp.Fr) (B : List Addr) (h : WkG H a f B) (x : Addr) (hx : x ∈ B) : H x ≠ none := by
  obtain ⟨rfl, h2⟩ := h
  have : x = a := by simpa using hx
  subst this
  rw [h2]
  exact fun z => by cases z
def frs (x : Lp) : List (Int × Lp × Lp) → List (V × Lp)
  | [] => [(.non, x)]
  | (t, x', _) :: fs => (.int t, x) :: frs x' fs
theorem frs_cons (fs : List (Int × Lp × Lp)) : ∃ v rest, ∀ x, frs x fs = (v, x) :: rest := by
  cases fs with
  | nil => exact ⟨.non, [], fun x => rfl⟩
  | cons f fs =>
    obtain ⟨t, x', y⟩ := f
    exact ⟨.int t, frs x' fs, fun x => rfl⟩
theorem frs_len (x : Lp) : ∀ fs : List (Int × Lp × Lp), (frs x fs).length = fs.length + 1
  | [] => rfl
  | (t, x', y) :: fs => congrArg (· + 1) (frs_len x' fs)
theorem drop_step {α : Type} {cs : List α} {i : Nat} {c : α} {r : List α} (h : cs[i]? = some c) (e : cs.drop i = r) : r = c :: cs.drop (i + 1) := by
  obtain ⟨hi, hc⟩ := List.getElem?_eq_some_iff.mp h
  rw [← e, List.drop_eq_getElem_cons hi, hc]
end Rf
namespace Rf
open PySem PySem.Spec L2
local macro_rules | `(tactic| tm_at "hp") => `(tactic| (first | assumption | exact FlowAt.top (by assumption) | exact FlowAt.all (by assumption) | exact FlowAt.pipe (by assumption) _ (by assumption) | exact upd_same | (refine keep_new (by assumption) ?_; tm_at "hp")))
local macro_rules | `(tactic| tm_at "sq") => `(tactic| (first | exact .inr (SqT.of (by tm_at "hp")) | exact .inl (SqL.of (by tm_at "hp"))))
local macro_rules | `(tactic| tm_at "at") => `(tactic| (first | rfl | exact itab_at (by assumption) | exact tab_at (by assumption)))
local macro_rules | `(tactic| tm_at "ix") => `(tactic| (refine' ⟨_, _, _, _, rfl, rfl, ?hs, ?ha, ?_⟩; (case hs => tm_at "sq"); (case ha => tm_at "at")))
local macro_rules | `(tactic| tm_at "len") => `(tactic| (refine' ⟨_, _, rfl, ?hs, ?_⟩; (case hs => tm_at "sq"); (first | rw [itab_len] | rw [tab_len] | rw [List.length_map] | skip)))
local macro_rules | `(tactic| tm_at "rg") => `(tactic| (refine ⟨rg_lo, rg_hi (by omega), ?_⟩))
local macro_rules | `(tactic| tm_at "ut") => `(tactic| (refine' ⟨_, _, rfl, ?hs, ?hl, ?_⟩; (case hs => exact SqT.of (by tm_at "hp")); (case hl => rfl)))
local macro_rules | `(tactic| tm_at "s") => `(tactic| repeat (first | refine ⟨_, rfl, ?_⟩ | refine ⟨_, _, rfl, rfl, ?_⟩ | tm_at "ix" | tm_at "len" | tm_at "ut" | refine ⟨rfl, ?_⟩ | refine ⟨_, _, rfl, ?_⟩ | refine ⟨Or.inl ⟨rfl, _, SqL.of (by tm_at "hp")⟩, ?_⟩))
local macro_rules | `(tactic| tm_at "tl") => `(tactic| (refine' ⟨_, _, rfl, Or.inl ⟨SqL.of ?hs, ?_⟩⟩; (case hs => tm_at "hp")))
local macro_rules | `(tactic| tm_at "acc") => `(tactic| (refine' ⟨_, ?ha, ?hz, ?_⟩; (case ha => tm_at "hp"); (case hz => (first | rw [itab_len] | rw [tab_len] | rw [List.length_map] | skip); exact small_lt (by omega))))
local macro_rules | `(tactic| tm_at "ap") => `(tactic| (refine' ⟨_, _, _, rfl, rfl, ?hs, ?hz, ?_⟩; (case hs => tm_at "hp")))
local macro_rules | `(tactic| tm_at "sm") => `(tactic| (first | assumption | exact Same.refl _ | (refine Same.new ?_ (by assumption); tm_at "sm") | (refine Same.mut ?_ (by assumption); tm_at "sm")))
section
variable {P : Program} {w : World} {K : PySem.W.Frag} {mg : Str → Option Value} {base : Heap}

theorem ok_some (D : Df K mg "_law_some" s_some p_some) (T : Tx mg) : Ca P w K mg base CX0 1 "_law_some" p_some spSome := by
  obtain ⟨f0, fd0, F0, gf0, bf0⟩ := D
  refine ⟨f0, fd0, ?_, gf0, F0.kp, bf0⟩
  refine F0.ok sc_some (fun vs H Q E h => ?_) (fun cdv A outer s0 H vs Q E hr h => ?_)
  · obtain ⟨f, n, m, Pi, pa, ad, rfl, _⟩ := h
    rfl
  obtain ⟨f, n, m, Pi, pa, ad, rfl, hF, hm, q⟩ := h
  refine ⟨_, (pss_one (ps_ret (pe_callTy (call_tupleK (K := K) rfl) (by rfl) T.z_tuple (by decide +kernel) (pa_cons (pe_lc (own := [("_law_pipe", 1)]) (g := gName 1) (by rfl) sc_some.nd (pi_tupK (K := K) rfl (pe_ix (ix_ltK (K := K) rfl) (pv 0) pe_int (fun _ _ => rfl))) (blkOk_by (own := [("_law_pipe", 1)]) (N := n_some) (sc := defScope s_some) (by decide +kernel)) (fun _ _ _ _ _ => pg_name (i := 1) sc_some.nd rfl (Or.inl rfl)) (fun _ _ _ _ _ => pts_nil) (fun _ _ _ _ _ => (pe_ix (ix_ltK (K := K) rfl) (pv 1) pe_int (fun _ _ => rfl)))) pa_nil)))), ?_⟩
  tm_at "s"
  refine ⟨⟨_, SqT.of hF.all⟩, fun D nD => ?_⟩
  refine lc_tup (K := K) (a := pa) (xs := tab m fun k => .ref (ad k)) (fun i H2 => Same H H2 ∧ H2 D = some (.lst (itab i fun k => (Pi k).start))) ⟨same_new nD, upd_same⟩ ?_ ?_ ?_
  · rintro i H2 hi ⟨e2, h2⟩
    exact SqT.of (e2 _ _ hF.all)
  · rintro i x H2 hx ⟨e2, h2⟩
    obtain ⟨hi, rfl⟩ := tab_some hx
    have F2 := hF.ts (Same.ts e2)
    refine ⟨rfl, ?_⟩
    tm_at "s"
    tm_at "acc"
    refine ⟨Same.mut e2 nD, ?_⟩
    rw [upd_same, itab_succ]
  · rintro H2 ⟨e2, h2⟩
    rw [tab_len] at h2
    refine ⟨_, _, rfl, .inl ⟨SqL.of h2, fun p np => ?_⟩⟩
    exact q p _ (Same.new e2 np) upd_same
end
end Rf
namespace Rf
open PySem PySem.Spec L2
local macro_rules | `(tactic| tm_at "hp") => `(tactic| (first | assumption | exact FlowAt.top (by assumption) | exact FlowAt.all (by assumption) | exact FlowAt.pipe (by assumption) _ (by assumption) | exact upd_same | (refine keep_new (by assumption) ?_; tm_at "hp")))
local macro_rules | `(tactic| tm_at "sq") => `(tactic| (first | exact .inr (SqT.of (by tm_at "hp")) | exact .inl (SqL.of (by tm_at "hp"))))
local macro_rules | `(tactic| tm_at "at") => `(tactic| (first | rfl | exact itab_at (by assumption) | exact tab_at (by assumption)))
local macro_rules | `(tactic| tm_at "ix") => `(tactic| (refine' ⟨_, _, _, _, rfl, rfl, ?hs, ?ha, ?_⟩; (case hs => tm_at "sq"); (case ha => tm_at "at")))
local macro_rules | `(tactic| tm_at "len") => `(tactic| (refine' ⟨_, _, rfl, ?hs, ?_⟩; (case hs => tm_at "sq"); (first | rw [itab_len] | rw [tab_len] | rw [List.length_map] | skip)))
local macro_rules | `(tactic| tm_at "rg") => `(tactic| (refine ⟨rg_lo, rg_hi (by omega), ?_⟩))
local macro_rules | `(tactic| tm_at "ut") => `(tactic| (refine' ⟨_, _, rfl, ?hs, ?hl, ?_⟩; (case hs => exact SqT.of (by tm_at "hp")); (case hl => rfl)))
local macro_rules | `(tactic| tm_at "s") => `(tactic| repeat (first | refine ⟨_, rfl, ?_⟩ | refine ⟨_, _, rfl, rfl, ?_⟩ | tm_at "ix" | tm_at "len" | tm_at "ut" | refine ⟨rfl, ?_⟩ | refine ⟨_, _, rfl, ?_⟩ | refine ⟨Or.inl ⟨rfl, _, SqL.of (by tm_at "hp")⟩, ?_⟩))
local macro_rules | `(tactic| tm_at "tl") => `(tactic| (refine' ⟨_, _, rfl, Or.inl ⟨SqL.of ?hs, ?_⟩⟩; (case hs => tm_at "hp")))
local macro_rules | `(tactic| tm_at "acc") => `(tactic| (refine' ⟨_, ?ha, ?hz, ?_⟩; (case ha => tm_at "hp"); (case hz => (first | rw [itab_len] | rw [tab_len] | rw [List.length_map] | skip); exact small_lt (by omega))))
local macro_rules | `(tactic| tm_at "ap") => `(tactic| (refine' ⟨_, _, _, rfl, rfl, ?hs, ?hz, ?_⟩; (case hs => tm_at "hp")))
local macro_rules | `(tactic| tm_at "sm") => `(tactic| (first | assumption | exact Same.refl _ | (refine Same.new ?_ (by assumption); tm_at "sm") | (refine Same.mut ?_ (by assumption); tm_at "sm")))
section
variable {P : Program} {w : World} {K : PySem.W.Frag} {mg : Str → Option Value} {base : Heap}

theorem ok_can (D : Df K mg "_law_can" s_can p_can) (T : Tx mg) : Ca P w K mg base CX0 1 "_law_can" p_can spCan := by
  obtain ⟨f0, fd0, F0, gf0, bf0⟩ := D
  refine ⟨f0, fd0, ?_, gf0, F0.kp, bf0⟩
  refine F0.ok sc_can (fun vs H Q E h => ?_) (fun cdv A outer s0 H vs Q E hr h => ?_)
  · obtain ⟨f, sa, box, n, m, Pi, s, pa, ad, rfl, _⟩ := h
    rfl
  obtain ⟨f, sa, box, n, m, Pi, s, pa, ad, rfl, hF, hs, hm, q⟩ := h
  refine ⟨_, (pss_one (ps_ret (pe_cmpR (op_eqK (K := K) rfl hr.units) (pe_lc (own := [("_law_k", 3)]) (g := gName 3) (by rfl) sc_can.nd (pi_range1 (by rfl) T.z_range (pa_cons (pe_callB (call_lenK (K := K) rfl) (by rfl) T.z_len PySem.boot_len (pa_cons (pv 1) pa_nil)) pa_nil)) (blkOk_by (own := [("_law_k", 3)]) (N := n_can) (sc := defScope s_can) (by decide +kernel)) (fun _ _ _ _ _ => pg_name (i := 3) sc_can.nd rfl (Or.inl rfl)) (fun _ _ _ _ _ => pts_one (PW.pt (pw_and (pt_cmpR op_eq (pe_ix (ix_ltK (K := K) rfl) (pe_ix (ix_ltK (K := K) rfl) (pe_ix (ix_ltK (K := K) rfl) (pv 0) pe_int (fun _ _ => rfl)) (pv 3) (fun _ _ => rfl)) pe_int (fun _ _ => rfl)) (pv 2) (nomark _)) (pw_and1 (pt_cmpR op_gt (pe_ix (ix_ltK (K := K) rfl) (pe_ix (ix_ltK (K := K) rfl) (pe_ix (ix_ltK (K := K) rfl) (pv 0) pe_int (fun _ _ => rfl)) (pv 3) (fun _ _ => rfl)) pe_int (fun _ _ => rfl)) (pe_ix (ix_ltK (K := K) rfl) (pv 1) (pv 3) (fun _ _ => rfl)) (nomark _)))))) (fun _ _ _ _ _ => (pv 3))) (pe_lst pa_nil) (nomark _)))), ?_⟩
  tm_at "s"
  tm_at "rg"
  refine fun D nD => ?_
  refine comp_rng (n := m) (fun i H2 => Same H H2 ∧ H2 D = some (.lst ((fl i (fun k => decide ((Pi k).other = box) && decide (s k < (Pi k).eat)) fun k => (k : Int)).map V.int))) ⟨same_new nD, upd_same⟩ ?_ ?_
  · rintro i H2 hi ⟨e2, h2⟩
    have F2 := hF.ts (Same.ts e2)
    have s2 := e2 _ _ hs
    refine ⟨rfl, ?_⟩
    tm_at "s"
    refine ite_eqi (fun c1 => ?_) (fun c1 => ?_)
    · tm_at "s"
      refine ite_dec (fun c2 => ?_) (fun c2 => ?_)
      · tm_at "s"
        refine ⟨_, h2, small_lt (by rw [List.length_map]; have := fl_len (m := i) (pr := fun k => decide ((Pi k).other = box) && decide (s k < (Pi k).eat)) (g := fun k => (k : Int)); omega), Same.mut e2 nD, ?_⟩
        rw [upd_same, fl_yes (by simp [c1, c2]), List.map_append]
        rfl
      · refine ⟨e2, ?_⟩
        rw [fl_no (by simp [c2])]
        exact h2
    · refine ⟨e2, ?_⟩
      rw [fl_no (by simp [c1])]
      exact h2
  · rintro H2 ⟨e2, h2⟩
    refine ⟨by decide, fun p np => ?_⟩
    refine st_eqL (ls := []) (keep_new np h2) upd_same ?_
    have e : decide (fl m (fun k => decide ((Pi k).other = box) && decide (s k < (Pi k).eat)) (fun k => (k : Int)) = []) = canM m Pi s box := by
      rw [fl_nilD]
      rfl
    rw [e]
    exact q _ (Same.new e2 np)
theorem ok_next (D : Df K mg "_law_next" s_next p_next) (T : Tx mg) : Ca P w K mg base CX0 1 "_law_next" p_next spNext := by
  obtain ⟨f0, fd0, F0, gf0, bf0⟩ := D
  refine ⟨f0, fd0, ?_, gf0, F0.kp, bf0⟩
  refine F0.ok sc_next (fun vs H Q E h => ?_) (fun cdv A outer s0 H vs Q E hr h => ?_)
  · obtain ⟨f, sa, box, n, m, Pi, s, pa, ad, rfl, _⟩ := h
    rfl
  obtain ⟨f, sa, box, n, m, Pi, s, pa, ad, rfl, hF, hs, hm, q⟩ := h
  refine ⟨_, (pss_cons (ps_set (i := 3) sc_next.nd rfl (.inl rfl) (pe_lst pa_nil)) (pss_cons (ps_for PassesOwn.never rfl (pi_range1 (by rfl) T.z_range (pa_cons (pe_callB (call_lenK (K := K) rfl) (by rfl) T.z_len PySem.boot_len (pa_cons (pv 1) pa_nil)) pa_nil)) (pg_name (i := 4) sc_next.nd rfl (.inl rfl)) (pss_cons (ps_asg (pe_ix (ix_ltK (K := K) rfl) (pe_ix (ix_ltK (K := K) rfl) (pv 0) pe_int (fun _ _ => rfl)) (pv 4) (fun _ _ => rfl)) (pg_tupK (K := K) rfl (by rfl) (pgs_cons (pg_name (i := 5) sc_next.nd rfl (.inl rfl)) (pgs_cons (pg_name (i := 6) sc_next.nd rfl (.inl rfl)) (pgs_cons (pg_name (i := 7) sc_next.nd rfl (.inl rfl)) (pgs_cons (pg_name (i := 8) sc_next.nd rfl (.inl rfl)) (pgs_cons (pg_name (i := 9) sc_next.nd rfl (.inl rfl)) pgs_nil))))))) (pss_one (ps_expr (pe_bm PySem.F.plainAttrs_list PySem.F.slot_list_append PySem.F.type_list_append mt_append (pv 3) (pa_cons (pe_op op_add (pe_op op_sub (pe_ix (ix_ltK (K := K) rfl) (pv 1) (pv 4) (fun _ _ => rfl)) (pe_ifExp (pt_cmpR op_eq (pv 6) (pv 2) (nomark _)) (pv 8) pe_int)) (pe_ifExp (pt_cmpR op_eq (pv 5) (pv 2) (nomark _)) (pv 7) pe_int)) pa_nil)))))) (pss_one (ps_ret (pe_callTy (call_tupleK (K := K) rfl) (by rfl) T.z_tuple (by decide +kernel) (pa_cons (pv 3) pa_nil)))))), ?_⟩
  refine ⟨by decide, fun l nl => ?_⟩
  tm_at "s"
  tm_at "rg"
  refine for_rng (fun i σ H2 => ∃ x4 x5 x6 x7 x8 x9, σ = [some (.ref f), some (.ref sa), some (.int box), some (.ref l), x4, x5, x6, x7, x8, x9] ∧ Same H H2 ∧ H2 l = some (.lst (itab i (nextM Pi s box)))) ⟨_, _, _, _, _, _, rfl, same_new nl, upd_same⟩ ?_ ?_
  · rintro i σ H2 hi ⟨x4, x5, x6, x7, x8, x9, rfl, e2, hl⟩
    have F2 := hF.ts (Same.ts e2)
    have s2 := e2 _ _ hs
    have hi : i < m := hi
    tm_at "s"
    refine ite_eqi (fun c1 => ?_) (fun c1 => ?_) <;> (tm_at "s"; refine ite_eqi (fun c2 => ?_) (fun c2 => ?_) <;> (tm_at "s"; tm_at "ap"; (case hz => (rw [itab_len]; exact small_lt (by omega))); refine ⟨_, _, _, _, _, _, rfl, Same.mut e2 nl, ?_⟩; rw [upd_same, itab_succ]; simp only [nextM, c1, c2, if_true, if_false, Int.sub_zero, Int.add_zero]))
  · rintro σ H2 ⟨x4, x5, x6, x7, x8, x9, rfl, e2, hl⟩
    tm_at "s"
    tm_at "tl"
    exact fun p np => q p _ (Same.new e2 np) upd_same
end
end Rf
namespace Rf
open PySem PySem.Spec L2
local macro_rules | `(tactic| tm_at "hp") => `(tactic| (first | assumption | exact FlowAt.top (by assumption) | exact FlowAt.all (by assumption) | exact FlowAt.pipe (by assumption) _ (by assumption) | exact upd_same | (refine keep_new (by assumption) ?_; tm_at "hp")))
local macro_rules | `(tactic| tm_at "sq") => `(tactic| (first | exact .inl (by assumption) | exact .inr (by assumption) | exact .inr (SqT.of (by tm_at "hp")) | exact .inl (SqL.of (by tm_at "hp"))))
local macro_rules | `(tactic| tm_at "at") => `(tactic| (first | rfl | exact itab_at (by assumption) | exact tab_at (by assumption)))
local macro_rules | `(tactic| tm_at "ix") => `(tactic| (refine' ⟨_, _, _, _, rfl, rfl, ?hs, ?ha, ?_⟩; (case hs => tm_at "sq"); (case ha => tm_at "at")))
local macro_rules | `(tactic| tm_at "len") => `(tactic| (refine' ⟨_, _, rfl, ?hs, ?_⟩; (case hs => tm_at "sq"); (first | rw [itab_len] | rw [tab_len] | rw [List.length_map] | skip)))
local macro_rules | `(tactic| tm_at "rg") => `(tactic| (refine ⟨rg_lo, rg_hi (by omega), ?_⟩))
local macro_rules | `(tactic| tm_at "ut") => `(tactic| (refine' ⟨_, _, rfl, ?hs, ?hl, ?_⟩; (case hs => exact SqT.of (by tm_at "hp")); (case hl => rfl)))
local macro_rules | `(tactic| tm_at "s") => `(tactic| repeat (first | refine ⟨_, rfl, ?_⟩ | refine ⟨_, _, rfl, rfl, ?_⟩ | tm_at "ix" | tm_at "len" | tm_at "ut" | refine ⟨rfl, ?_⟩ | refine ⟨_, _, rfl, ?_⟩ | refine Or.inl ⟨_, rfl, ?_⟩ | refine ⟨Or.inl ⟨rfl, _, SqL.of (by tm_at "hp")⟩, ?_⟩))
local macro_rules | `(tactic| tm_at "tl") => `(tactic| (refine' ⟨_, _, rfl, Or.inl ⟨SqL.of ?hs, ?_⟩⟩; (case hs => tm_at "hp")))
local macro_rules | `(tactic| tm_at "set") => `(tactic| (refine' ⟨_, _, _, _, rfl, rfl, ?hs, ?hj, ?_⟩; (case hs => tm_at "hp"); (case hj => (first | rfl | exact tab_ixN (by assumption)))))
local macro_rules | `(tactic| tm_at "sz") => `(tactic| (first | exact small_ok (Nat.le_of_ble_eq_true rfl) | exact Nat.le_of_ble_eq_true rfl))
local macro_rules | `(tactic| tm_at "acc") => `(tactic| (refine' ⟨_, ?ha, ?hz, ?_⟩; (case ha => tm_at "hp"); (case hz => (first | rw [itab_len] | rw [tab_len] | rw [List.length_map] | skip); exact small_lt (by omega))))
local macro_rules | `(tactic| tm_at "ap") => `(tactic| (refine' ⟨_, _, _, rfl, rfl, ?hs, ?hz, ?_⟩; (case hs => tm_at "hp")))
local macro_rules | `(tactic| tm_at "sm") => `(tactic| (first | assumption | exact Same.refl _ | (refine Same.new ?_ (by assumption); tm_at "sm") | (refine Same.mut ?_ (by assumption); tm_at "sm")))
section
variable {P : Program} {w : World} {K : PySem.W.Frag} {mg : Str → Option Value} {base : Heap}

theorem ok_with (D : Df K mg "_law_with" s_with p_with) (T : Tx mg) : Ca P w K mg base CX0 1 "_law_with" p_with spWith := by
  obtain ⟨f0, fd0, F0, gf0, bf0⟩ := D
  refine ⟨f0, fd0, ?_, gf0, F0.kp, bf0⟩
  refine F0.ok sc_with (fun vs H Q E h => ?_) (fun cdv A outer s0 H vs Q E hr h => ?_)
  · obtain ⟨f, sa, n, m, Pi, s, pa, ad, rfl, _⟩ := h
    rfl
  obtain ⟨f, sa, n, m, Pi, s, pa, ad, rfl, hF, hs, hm, q⟩ := h
  refine ⟨_, (pss_one (ps_ret (pe_tup (pa_cons (pe_ix (ix_ltK (K := K) rfl) (pv 0) pe_int (fun _ _ => rfl)) (pa_cons (pe_callTy (call_tupleK (K := K) rfl) (by rfl) T.z_tuple (by decide +kernel) (pa_cons (pe_lc (own := [("_law_k", 2)]) (g := gName 2) (by rfl) sc_with.nd (pi_range1 (by rfl) T.z_range (pa_cons (pe_callB (call_lenK (K := K) rfl) (by rfl) T.z_len PySem.boot_len (pa_cons (pe_ix (ix_ltK (K := K) rfl) (pv 0) pe_int (fun _ _ => rfl)) pa_nil)) pa_nil)) (blkOk_by (own := [("_law_k", 2)]) (N := n_with) (sc := defScope s_with) (by decide +kernel)) (fun _ _ _ _ _ => pg_name (i := 2) sc_with.nd rfl (Or.inl rfl)) (fun _ _ _ _ _ => pts_nil) (fun _ _ _ _ _ => (pe_op (op_catK (K := K) rfl) (pe_slice (sl_tupK (K := K) rfl) (pe_ix (ix_ltK (K := K) rfl) (pe_ix (ix_ltK (K := K) rfl) (pv 0) pe_int (fun _ _ => rfl)) (pv 2) (fun _ _ => rfl)) po_none (po_some pe_int)) (pe_tup (pa_cons (pe_ix (ix_ltK (K := K) rfl) (pv 1) (pv 2) (fun _ _ => rfl)) pa_nil))))) pa_nil)) pa_nil))))), ?_⟩
  tm_at "s"
  tm_at "rg"
  refine fun D nD => ?_
  refine comp_rng (n := m) (fun i H2 => Same H H2 ∧ ∃ ad2 : Nat → Addr, H2 D = some (.lst (tab i fun k => .ref (ad2 k))) ∧ ∀ k, k < i → H2 (ad2 k) = some (.tup ({ Pi k with start := s k } : Pipe).vs)) ⟨same_new nD, fun _ => 0, upd_same, fun k hk => absurd hk (Nat.not_lt_zero k)⟩ ?_ ?_
  · rintro i H2 hi ⟨e2, ad2, h2, h3⟩
    have F2 := hF.ts (Same.ts e2)
    have s2 := e2 _ _ hs
    refine ⟨rfl, ?_⟩
    tm_at "s"
    refine st_slice (F2.pipe i hi) fun p H3 e3 h4 => ?_
    have s3 := e3 _ _ s2
    tm_at "s"
    refine ⟨by tm_at "sz", fun t nt => ?_⟩
    refine st_cat (keep_new nt h4) upd_same (by tm_at "sz") fun r H4 e4 h5 => ?_
    have e34 : Same H2 H4 := Same.trans e3 (Same.trans (same_new nt) e4)
    refine ⟨_, e34 _ _ h2, by rw [tab_len]; exact small_lt (by omega), Same.mut (Same.trans e2 e34) nD, ext ad2 i r, ?_, fun k hk => ?_⟩
    · rw [upd_same, tab_ext V.ref]
    · by_cases e : k = i
      · subst e
        rw [ext_same]
        exact keep_ne (ne_of h5 (e34 _ _ h2) (by intro z; cases z)) h5
      · rw [ext_ne e]
        have h6 := e34 _ _ (h3 k (by omega))
        exact keep_ne (ne_of h6 (e34 _ _ h2) (by intro z; cases z)) h6
  · rintro H2 ⟨e2, ad2, h2, h3⟩
    refine ⟨_, _, rfl, .inl ⟨SqL.of h2, fun p np => ⟨by tm_at "sz", fun f' nf => ?_⟩⟩⟩
    have e3 : Same H2 (upd (upd H2 p (.tup (tab m fun k => .ref (ad2 k)))) f' (.tup [.int n, .ref p])) := Same.new (same_new np) nf
    exact q f' p ad2 _ (Same.trans e2 e3) ⟨upd_same, keep_new nf upd_same, fun k hk => e3 _ _ (h3 k hk)⟩
theorem ok_taken (D : Df K mg "_law_taken" s_taken p_taken) (T : Tx mg) : Ca P w K mg base CX0 1 "_law_taken" p_taken (spTaken K) := by
  obtain ⟨f0, fd0, F0, gf0, bf0⟩ := D
  refine ⟨f0, fd0, ?_, gf0, F0.kp, bf0⟩
  refine F0.ok sc_taken (fun vs H Q E h => ?_) (fun cdv A outer s0 H vs Q E hr h => ?_)
  · obtain ⟨row, a, m, rfl, _⟩ := h
    rfl
  obtain ⟨row, a, m, rfl, ⟨ns, i, s, r, hr0, hS, hne, h63, hi, hs, hs2⟩, hm, hm2, q⟩ := h
  refine ⟨_, (pss_cons (ps_if (pt_cmpR op_gt (pe_ix (ix_ltK (K := K) rfl) (pv 0) pe_int (fun _ _ => rfl)) pe_int (nomark _)) (pss_cons (ps_set (i := 2) sc_taken.nd rfl (.inl rfl) (pe_op op_mod (pe_callTy call_int1 (by rfl) T.z_int (by decide +kernel) (pa_cons (pe_ix (ix_ltK (K := K) rfl) (pv 0) pe_int (fun _ _ => rfl)) pa_nil)) (pv 1))) (pss_cons (ps_asg (pe_op op_fdivW (pe_ix (ix_ltK (K := K) rfl) (pv 0) pe_int (fun _ _ => rfl)) (pv 1)) (pg_sub (pv 0) pe_int set_list)) (pss_one (ps_ret (pv 2))))) pss_nil) (pss_cons (ps_asg (pe_op op_add (pe_ix (ix_ltK (K := K) rfl) (pv 0) pe_int (fun _ _ => rfl)) pe_int) (pg_sub (pv 0) pe_int set_list)) (pss_cons (ps_if (pt_cmpR op_gt (pe_ix (ix_ltK (K := K) rfl) (pv 0) pe_int (fun _ _ => rfl)) (pe_callB (call_lenK (K := K) rfl) (by rfl) T.z_len PySem.boot_len (pa_cons (pe_ix (ix_ltK (K := K) rfl) (pv 0) pe_int (fun _ _ => rfl)) pa_nil)) (nomark _)) (pss_cons (ps_asg (pe_op op_mod (pe_callTy call_int1 (by rfl) T.z_int (by decide +kernel) (pa_cons (pe_op op_add (pe_op op_mul (pe_ix (ix_ltK (K := K) rfl) (pv 0) pe_int (fun _ _ => rfl)) pe_int) pe_int) pa_nil)) pe_int) (pg_sub (pv 0) pe_int set_list)) (pss_one (ps_ret (pe_op op_mod (pe_callTy call_int1 (by rfl) T.z_int (by decide +kernel) (pa_cons (pe_op op_fdivW (pe_ix (ix_ltK (K := K) rfl) (pv 0) pe_int (fun _ _ => rfl)) pe_int) pa_nil)) (pv 1))))) pss_nil) (pss_cons (ps_set (i := 3) sc_taken.nd rfl (.inl rfl) (pe_ix (ix_ltK (K := K) rfl) (pe_ix (ix_ltK (K := K) rfl) (pv 0) pe_int (fun _ _ => rfl)) (pe_op op_sub (pe_ix (ix_ltK (K := K) rfl) (pv 0) pe_int (fun _ _ => rfl)) pe_int) (fun _ _ => rfl))) (pss_cons (ps_asg (pe_op op_mod (pe_callTy call_int1 (by rfl) T.z_int (by decide +kernel) (pa_cons (pe_op op_add (pe_op op_add (pe_op op_mul (pe_ix (ix_ltK (K := K) rfl) (pv 0) pe_int (fun _ _ => rfl)) pe_int) (pv 3)) pe_int) pa_nil)) pe_int) (pg_sub (pv 0) pe_int set_list)) (pss_cons (ps_if (pt_cmpR op_ge (pv 3) (pe_op op_pow pe_int pe_int) (nomark _)) (pss_one (ps_asg (pe_op op_fdivW (pv 3) (pv 1)) (pg_sub (pv 0) pe_int set_list))) pss_nil) (pss_one (ps_ret (pe_op op_mod (pe_callTy call_int1 (by rfl) T.z_int (by decide +kernel) (pa_cons (pv 3) pa_nil)) (pv 1)))))))))), ?_⟩
  have rowup : ∀ (H1 : Hp) (i' s' r' : Int), Kp row H H1 → H1 row = some (.lst [.ref a, .int i', .int s', .int r']) → 0 ≤ i' → 0 ≤ s' → s' < 2147483647 → RowAt K H1 row a := fun H1 i' s' r' k h1 h2 h3 h4 => ⟨ns, i', s', r', h1, k.seq hne hS, hne, h63, h2, h3, h4⟩
  have dv : CDivW r m := wide_div (b := 100) (by omega) (by omega) (by decide) (by decide)
  tm_at "s"
  refine ite_dec (fun c => ?_) (fun c => ?_)
  · tm_at "s"
    refine ⟨by show (0 : Int) < m; omega, ?_⟩
    tm_at "s"
    refine ⟨dv, ?_⟩
    tm_at "s"
    tm_at "set"
    tm_at "s"
    exact q _ _ (Int.emod_nonneg _ (by omega)) (Int.emod_lt_of_pos _ (by omega)) (Kp.put Kp.refl) (rowup _ i s _ (Kp.put Kp.refl) upd_same hi hs hs2)
  · tm_at "s"
    tm_at "set"
    have k1 : ∀ o, Kp row H (upd H row o) := fun o => Kp.put Kp.refl
    have S1 : ∀ o, SqL K (upd H row o) a (ns.map V.int) := fun o => (k1 o).seq hne hS
    tm_at "s"
    refine ⟨_, _, rfl, .inl (S1 _), ?_⟩
    rw [List.length_map]
    tm_at "s"
    refine ite_dec (fun c1 => ?_) (fun c1 => ?_)
    · tm_at "s"
      refine ⟨.inr ⟨by decide, by decide⟩, ?_⟩
      tm_at "s"
      refine ⟨by show (0 : Int) < 2147483647; decide, ?_⟩
      tm_at "s"
      tm_at "set"
      tm_at "s"
      have m1 := Int.emod_nonneg (s * 48271 + 11) (show (2147483647 : Int) ≠ 0 by decide)
      have m2 := Int.emod_lt_of_pos (s * 48271 + 11) (show (0 : Int) < 2147483647 by decide)
      refine ⟨wide_div (b := 100) (by decide) (by decide) (by decide) (by decide), ?_⟩
      tm_at "s"
      refine ⟨by show (0 : Int) < m; omega, ?_⟩
      exact q _ _ (Int.emod_nonneg _ (by omega)) (Int.emod_lt_of_pos _ (by omega)) (Kp.put (k1 _)) (rowup _ (i + 1) _ r (Kp.put (k1 _)) upd_same (by omega) m1 m2)
    · tm_at "s"
      have hi2 : i + 1 - 1 = ((i.toNat : Nat) : Int) := by omega
      have hi3 : i.toNat < ns.length := by omega
      have at1 : atI (ns.map V.int) (i + 1 - 1) = some (.int ns[i.toNat]) := by
        rw [hi2]
        exact atI_nat (by rw [List.getElem?_map, List.getElem?_eq_getElem hi3]; rfl)
      generalize ns[i.toNat] = cell at at1
      refine ⟨_, _, _, _, rfl, rfl, .inl (S1 _), at1, ?_⟩
      tm_at "s"
      refine ⟨.inr ⟨by decide, by decide⟩, ?_⟩
      tm_at "s"
      refine ⟨by show (0 : Int) < 2147483647; decide, ?_⟩
      tm_at "s"
      tm_at "set"
      have m1 := Int.emod_nonneg (s * 48271 + cell + 11) (show (2147483647 : Int) ≠ 0 by decide)
      have m2 := Int.emod_lt_of_pos (s * 48271 + cell + 11) (show (0 : Int) < 2147483647 by decide)
      tm_at "s"
      refine ⟨⟨by decide, by decide, by decide⟩, ?_⟩
      tm_at "s"
      refine ite_dec (fun c2 => ?_) (fun c2 => ?_)
      · tm_at "s"
        refine ⟨wide_div (b := 100) (by omega) (by omega) (by decide) (by decide), ?_⟩
        tm_at "s"
        tm_at "set"
        tm_at "s"
        refine ⟨by show (0 : Int) < m; omega, ?_⟩
        exact q _ _ (Int.emod_nonneg _ (by omega)) (Int.emod_lt_of_pos _ (by omega)) (Kp.put (Kp.put (k1 _))) (rowup _ (i + 1) _ _ (Kp.put (Kp.put (k1 _))) upd_same (by omega) m1 m2)
      · tm_at "s"
        refine ⟨by show (0 : Int) < m; omega, ?_⟩
        exact q _ _ (Int.emod_nonneg _ (by omega)) (Int.emod_lt_of_pos _ (by omega)) (Kp.put (k1 _)) (rowup _ (i + 1) _ r (Kp.put (k1 _)) upd_same (by omega) m1 m2)
end
end Rf
namespace Rf
open PySem PySem.Spec L2
local macro_rules | `(tactic| tm_at "hp") => `(tactic| (first | assumption | exact FlowAt.top (by assumption) | exact FlowAt.all (by assumption) | exact FlowAt.pipe (by assumption) _ (by assumption) | exact upd_same | (refine keep_new (by assumption) ?_; tm_at "hp")))
local macro_rules | `(tactic| tm_at "sq") => `(tactic| (first | exact .inl (by assumption) | exact .inr (by assumption) | exact .inr (SqT.of (by tm_at "hp")) | exact .inl (SqL.of (by tm_at "hp"))))
local macro_rules | `(tactic| tm_at "at") => `(tactic| (first | rfl | exact itab_at (by assumption) | exact tab_at (by assumption)))
local macro_rules | `(tactic| tm_at "ix") => `(tactic| (refine' ⟨_, _, _, _, rfl, rfl, ?hs, ?ha, ?_⟩; (case hs => tm_at "sq"); (case ha => tm_at "at")))
local macro_rules | `(tactic| tm_at "len") => `(tactic| (refine' ⟨_, _, rfl, ?hs, ?_⟩; (case hs => tm_at "sq"); (first | rw [itab_len] | rw [tab_len] | rw [List.length_map] | skip)))
local macro_rules | `(tactic| tm_at "rg") => `(tactic| (refine ⟨rg_lo, rg_hi (by omega), ?_⟩))
local macro_rules | `(tactic| tm_at "ut") => `(tactic| (refine' ⟨_, _, rfl, ?hs, ?hl, ?_⟩; (case hs => exact SqT.of (by tm_at "hp")); (case hl => rfl)))
local macro_rules | `(tactic| tm_at "s") => `(tactic| repeat (first | refine ⟨_, rfl, ?_⟩ | refine ⟨_, _, rfl, rfl, ?_⟩ | tm_at "ix" | tm_at "len" | tm_at "ut" | refine ⟨rfl, ?_⟩ | refine ⟨_, _, rfl, ?_⟩ | refine Or.inl ⟨_, rfl, ?_⟩ | refine ⟨Or.inl ⟨rfl, _, SqL.of (by tm_at "hp")⟩, ?_⟩))
local macro_rules | `(tactic| tm_at "tl") => `(tactic| (refine' ⟨_, _, rfl, Or.inl ⟨SqL.of ?hs, ?_⟩⟩; (case hs => tm_at "hp")))
local macro_rules | `(tactic| tm_at "set") => `(tactic| (refine' ⟨_, _, _, _, rfl, rfl, ?hs, ?hj, ?_⟩; (case hs => tm_at "hp"); (case hj => (first | rfl | exact tab_ixN (by assumption)))))
local macro_rules | `(tactic| tm_at "sz") => `(tactic| (first | exact small_ok (Nat.le_of_ble_eq_true rfl) | exact Nat.le_of_ble_eq_true rfl))
local macro_rules | `(tactic| tm_at "acc") => `(tactic| (refine' ⟨_, ?ha, ?hz, ?_⟩; (case ha => tm_at "hp"); (case hz => (first | rw [itab_len] | rw [tab_len] | rw [List.length_map] | skip); exact small_lt (by omega))))
local macro_rules | `(tactic| tm_at "ap") => `(tactic| (refine' ⟨_, _, _, rfl, rfl, ?hs, ?hz, ?_⟩; (case hs => tm_at "hp")))
local macro_rules | `(tactic| tm_at "sm") => `(tactic| (first | assumption | exact Same.refl _ | (refine Same.new ?_ (by assumption); tm_at "sm") | (refine Same.mut ?_ (by assumption); tm_at "sm")))
section
variable {P : Program} {w : World} {K : PySem.W.Frag} {mg : Str → Option Value} {base : Heap}

theorem ok_pick (D : Df K mg "_law_pick" s_pick p_pick) (T : Tx mg) (C_taken : Ca P w K mg base CX0 1 "_law_taken" p_taken (spTaken K)) : Ca P w K mg base CX0 2 "_law_pick" p_pick (spPick K) := by
  obtain ⟨f_taken, fd_taken, G_taken, m_taken, k_taken, b_taken⟩ := C_taken
  obtain ⟨f0, fd0, F0, gf0, bf0⟩ := D
  refine ⟨f0, fd0, ?_, gf0, F0.kp, bf0⟩
  refine F0.ok sc_pick (fun vs H Q E h => ?_) (fun cdv A outer s0 H vs Q E hr h => ?_)
  · obtain ⟨row, sc, t, xs, rfl, _⟩ := h
    rfl
  obtain ⟨row, sc, t, xs, rfl, hR, ht, hne, h1, h2, q⟩ := h
  refine ⟨_, (pss_one (ps_ret (pe_ix (ix_ltK (K := K) rfl) (pv 1) (pe_call G_taken (hr.mono (by decide)) (by rfl) m_taken k_taken b_taken .nil pass0 (pa_cons (pv 0) (pa_cons (pe_callB (call_lenK (K := K) rfl) (by rfl) T.z_len PySem.boot_len (pa_cons (pv 1) pa_nil)) pa_nil))) (fun _ _ => rfl)))), ?_⟩
  tm_at "s"
  refine ⟨_, _, _, rfl, hR, by omega, by omega, fun v H1 v0 v1 k1 R1 => ?_⟩
  have e : v = ((v.toNat : Nat) : Int) := by omega
  have hv : v.toNat < xs.length := by omega
  have hx := List.getElem?_eq_getElem hv
  refine ⟨_, _, _, _, rfl, rfl, .inl (SqL.of (k1 _ _ hne ht)), ?_, q v.toNat _ H1 hx k1 R1⟩
  have at1 : atI xs ((v.toNat : Nat) : Int) = some xs[v.toNat] := atI_nat hx
  rwa [← e] at at1
theorem ok_gcd (D : Df K mg "_law_gcd" s_gcd p_gcd) (T : Tx mg) : Ca P w K mg base CX0 1 "_law_gcd" p_gcd spGcd := by
  obtain ⟨f0, fd0, F0, gf0, bf0⟩ := D
  refine ⟨f0, fd0, ?_, gf0, F0.kp, bf0⟩
  refine F0.ok sc_gcd (fun vs H Q E h => ?_) (fun cdv A outer s0 H vs Q E hr h => ?_)
  · obtain ⟨a, b, rfl, _⟩ := h
    rfl
  obtain ⟨a, b, rfl, q⟩ := h
  refine ⟨_, (pss_cons (ps_par (i := 0) (j := 1) (by rfl) sc_gcd.nd rfl rfl (by decide) rfl rfl (pa_cons (pe_callB call_abs (by rfl) T.z_abs (by decide +kernel) (pa_cons (pv 0) pa_nil)) (pa_cons (pe_callB call_abs (by rfl) T.z_abs (by decide +kernel) (pa_cons (pv 1) pa_nil)) pa_nil)) (by rfl)) (pss_cons (ps_while PassesOwn.never (pt_cmpR op_ne (pv 1) pe_int (nomark _)) (pss_one (ps_par (i := 0) (j := 1) (by rfl) sc_gcd.nd rfl rfl (by decide) rfl rfl (pa_cons (pv 1) (pa_cons (pe_op op_mod (pe_callTy call_int1 (by rfl) T.z_int (by decide +kernel) (pa_cons (pv 0) pa_nil)) (pv 1)) pa_nil)) (by rfl)))) (pss_one (ps_ret (pv 0))))), ?_⟩
  have ab : ∀ z : Int, (if z < 0 then -z else z) = ((z.natAbs : Nat) : Int) := fun z => by split <;> omega
  tm_at "s"
  rw [ab a, ab b]
  refine ⟨fun m σ H2 => ∃ x y : Nat, σ = [some (.int x), some (.int y)] ∧ y = m ∧ Nat.gcd x y = Int.gcd a b ∧ H2 = H, ⟨_, a.natAbs, b.natAbs, rfl, rfl, rfl, rfl⟩, ?_⟩
  rintro m σ H2 ⟨x, y, rfl, rfl, hg, rfl⟩
  tm_at "s"
  refine ite_nei (fun c => ?_) (fun c => ?_)
  · refine ⟨fun σ' H' => ∃ x' y' : Nat, σ' = [some (.int x'), some (.int y')] ∧ y' < y ∧ Nat.gcd x' y' = Int.gcd a b ∧ H' = H2, fun σ' H' hN => ?_, ?_⟩
    · obtain ⟨x', y', e1, e2, e3, e4⟩ := hN
      exact ⟨y', e2, x', y', e1, rfl, e3, e4⟩
    · tm_at "s"
      have y0 : 0 < y := by omega
      refine ⟨by show (0 : Int) < (y : Int); omega, ?_⟩
      tm_at "s"
      refine ⟨Nat.mod_lt _ y0, ?_, rfl⟩
      show Nat.gcd y (x % y) = _
      rw [Nat.gcd_comm, ← Nat.gcd_rec, Nat.gcd_comm]
      exact hg
  · tm_at "s"
    have y0 : y = 0 := by omega
    subst y0
    rw [Nat.gcd_zero_right] at hg
    rw [hg]
    exact q
theorem ok_ratio (D : Df K mg "_law_ratio" s_ratio p_ratio) (T : Tx mg) (C_gcd : Ca P w K mg base CX0 1 "_law_gcd" p_gcd spGcd) : Ca P w K mg base CX0 2 "_law_ratio" p_ratio spRatio := by
  obtain ⟨f_gcd, fd_gcd, G_gcd, m_gcd, k_gcd, b_gcd⟩ := C_gcd
  obtain ⟨f0, fd0, F0, gf0, bf0⟩ := D
  refine ⟨f0, fd0, ?_, gf0, F0.kp, bf0⟩
  refine F0.ok sc_ratio (fun vs H Q E h => ?_) (fun cdv A outer s0 H vs Q E hr h => ?_)
  · obtain ⟨a, b, rfl, _⟩ := h
    rfl
  obtain ⟨a, b, rfl, ha, hb, hb2, q⟩ := h
  refine ⟨_, (pss_cons (ps_set (i := 2) sc_ratio.nd rfl (.inl rfl) (pe_call G_gcd (hr.mono (by decide)) (by rfl) m_gcd k_gcd b_gcd .nil pass0 (pa_cons (pv 0) (pa_cons (pv 1) pa_nil)))) (pss_cons (ps_set (i := 2) sc_ratio.nd rfl (.inl rfl) (pe_ifExp (pt_cmpR op_lt (pv 1) pe_int (nomark _)) (pe_op op_sub pe_int (pv 2)) (pv 2))) (pss_one (ps_ret (pe_tup (pa_cons (pe_op op_fdivW (pv 0) (pv 2)) (pa_cons (pe_op op_fdivW (pv 1) (pv 2)) pa_nil))))))), ?_⟩
  have g1 : 0 < Int.gcd a b := Int.gcd_pos_of_ne_zero_left b (by omega)
  have g2 : Int.gcd a b ≤ b.natAbs := Nat.le_of_dvd (by omega) (Int.gcd_dvd_natAbs_right ..)
  tm_at "s"
  refine ite_dec (fun c => by omega) (fun c => ?_)
  tm_at "s"
  have dv : ∀ x : Int, CDivW x ((Int.gcd a b : Nat) : Int) := fun x => wide_div (b := 100) (by omega) (by omega) (by decide) (by decide)
  refine ⟨dv _, ?_⟩
  tm_at "s"
  refine ⟨dv _, ?_⟩
  refine ⟨by tm_at "sz", fun p np => ?_⟩
  exact q p _ (same_new np) upd_same
theorem ok_any (D : Df K mg "_law_any" s_any p_any) (T : Tx mg) (C_taken : Ca P w K mg base CX0 1 "_law_taken" p_taken (spTaken K)) : Ca P w K mg base CX0 2 "_law_any" p_any (spAny K) := by
  obtain ⟨f_taken, fd_taken, G_taken, m_taken, k_taken, b_taken⟩ := C_taken
  obtain ⟨f0, fd0, F0, gf0, bf0⟩ := D
  refine ⟨f0, fd0, ?_, gf0, F0.kp, bf0⟩
  refine F0.ok sc_any (fun vs H Q E h => ?_) (fun cdv A outer s0 H vs Q E hr h => ?_)
  · obtain ⟨row, sc, rfl, _⟩ := h
    rfl
  obtain ⟨row, sc, rfl, hR, q⟩ := h
  refine ⟨_, (pss_cons (ps_set (i := 1) sc_any.nd rfl (.inl rfl) (pe_op op_add pe_int (pe_call G_taken (hr.mono (by decide)) (by rfl) m_taken k_taken b_taken .nil pass0 (pa_cons (pv 0) (pa_cons pe_int pa_nil))))) (pss_cons (ps_set (i := 2) sc_any.nd rfl (.inl rfl) (pe_lst pa_nil)) (pss_cons (ps_for PassesOwn.never rfl (pi_range1 (by rfl) T.z_range (pa_cons (pe_call G_taken (hr.mono (by decide)) (by rfl) m_taken k_taken b_taken .nil pass0 (pa_cons (pv 0) (pa_cons pe_int pa_nil))) pa_nil)) (pg_name (i := 3) sc_any.nd rfl (.inl rfl)) (pss_one (ps_expr (pe_bm PySem.F.plainAttrs_list PySem.F.slot_list_append PySem.F.type_list_append mt_append (pv 2) (pa_cons (pe_tup (pa_cons (pe_call G_taken (hr.mono (by decide)) (by rfl) m_taken k_taken b_taken .nil pass0 (pa_cons (pv 0) (pa_cons (pv 1) pa_nil))) (pa_cons (pe_call G_taken (hr.mono (by decide)) (by rfl) m_taken k_taken b_taken .nil pass0 (pa_cons (pv 0) (pa_cons (pv 1) pa_nil))) (pa_cons (pe_op op_add pe_int (pe_call G_taken (hr.mono (by decide)) (by rfl) m_taken k_taken b_taken .nil pass0 (pa_cons (pv 0) (pa_cons pe_int pa_nil)))) (pa_cons (pe_op op_add pe_int (pe_call G_taken (hr.mono (by decide)) (by rfl) m_taken k_taken b_taken .nil pass0 (pa_cons (pv 0) (pa_cons pe_int pa_nil)))) (pa_cons (pe_call G_taken (hr.mono (by decide)) (by rfl) m_taken k_taken b_taken .nil pass0 (pa_cons (pv 0) (pa_cons pe_int pa_nil))) pa_nil)))))) pa_nil))))) (pss_one (ps_ret (pe_tup (pa_cons (pv 1) (pa_cons (pe_callTy (call_tupleK (K := K) rfl) (by rfl) T.z_tuple (by decide +kernel) (pa_cons (pv 2) pa_nil)) pa_nil)))))))), ?_⟩
  tm_at "s"
  refine ⟨_, _, _, rfl, hR, by first | decide | omega, by first | decide | omega, fun nn H_nn nn0 nn1 k_nn R_nn => ?_⟩
  tm_at "s"
  refine ⟨by tm_at "sz", fun l nl => ?_⟩
  tm_at "s"
  refine ⟨_, _, _, rfl, R_nn.same (same_new nl), by first | decide | omega, by first | decide | omega, fun tt H_tt tt0 tt1 k_tt R_tt => ?_⟩
  obtain ⟨t, rfl⟩ := Int.eq_ofNat_of_zero_le tt0
  obtain ⟨n, rfl⟩ := Int.eq_ofNat_of_zero_le nn0
  tm_at "s"
  tm_at "rg"
  have lr : l ≠ row := R_nn.ne nl
  refine for_rng (n := t) (fun i σ H3 => ∃ x3 Pi ad, σ = [some (.ref row), some (.int (1 + (n : Int))), some (.ref l), x3] ∧ Kp row H_nn H3 ∧ RowAt K H3 row sc ∧ H3 l = some (.lst (tab i fun k => .ref (ad k))) ∧ ∀ k, k < i → H3 (ad k) = some (.tup (Pi k).vs) ∧ PipeOk (1 + n) (Pi k) 1000)
    ⟨_, fun _ => ⟨0, 0, 0, 0, 0⟩, fun _ => 0, rfl, Kp.trans (Same.kp (same_new nl)) k_tt, R_tt, k_tt _ _ lr upd_same, fun k hk => absurd hk (Nat.not_lt_zero k)⟩ ?_ ?_
  · rintro i σ H3 hi ⟨x3, Pi, ad, rfl, k3, R3, h3, h4⟩
    tm_at "s"
    refine ⟨_, _, _, rfl, R3, by first | decide | omega, by first | decide | omega, fun a H_a a0 a1 k_a R_a => ?_⟩
    tm_at "s"
    refine ⟨_, _, _, rfl, R_a, by first | decide | omega, by first | decide | omega, fun b H_b b0 b1 k_b R_b => ?_⟩
    tm_at "s"
    refine ⟨_, _, _, rfl, R_b, by first | decide | omega, by first | decide | omega, fun c H_c c0 c1 k_c R_c => ?_⟩
    tm_at "s"
    refine ⟨_, _, _, rfl, R_c, by first | decide | omega, by first | decide | omega, fun d H_d d0 d1 k_d R_d => ?_⟩
    tm_at "s"
    refine ⟨_, _, _, rfl, R_d, by first | decide | omega, by first | decide | omega, fun e H_e e0 e1 k_e R_e => ?_⟩
    have k4 : Kp row H3 H_e := Kp.trans (Kp.trans (Kp.trans (Kp.trans k_a k_b) k_c) k_d) k_e
    refine ⟨by tm_at "sz", fun p np => ?_⟩
    have l4 := k4 _ _ lr h3
    refine ⟨l, _, _, rfl, rfl, keep_new np l4, small_lt (by rw [tab_len]; omega), _, ext Pi i ⟨a, b, 1 + c, 1 + d, e⟩, ext ad i p, rfl, ?_, ?_, ?_, fun k hk => ?_⟩
    · exact Kp.mut (Kp.new (Kp.trans k3 k4) np) nl
    · exact (R_e.same (same_new np)).mut R_nn nl
    · rw [upd_same, tab_ext V.ref]
    · have pl : p ≠ l := (ne_of_none l4 np).symm
      by_cases c1 : k = i
      · subst c1
        rw [ext_same, ext_same]
        exact ⟨keep_ne pl upd_same, ⟨a0, by show a < _; omega, b0, by show b < _; omega, by show 1 ≤ 1 + c; omega, by show 1 + c ≤ 8; omega, by show 1 ≤ 1 + d; omega, by show 1 + d ≤ 8; omega, e0, by show e ≤ 1000; omega⟩⟩
      · rw [ext_ne c1, ext_ne c1]
        obtain ⟨h5, h6⟩ := h4 k (by omega)
        have h7 := k4 _ _ (R3.ne_tup h5) h5
        exact ⟨keep_ne (ne_of h7 l4 (by intro z; cases z)) (keep_new np h7), h6⟩
  · rintro σ H3 ⟨x3, Pi, ad, rfl, k3, R3, h3, h4⟩
    tm_at "s"
    refine ⟨_, _, rfl, .inl ⟨SqL.of h3, fun p np => ⟨by tm_at "sz", fun f nf => ?_⟩⟩⟩
    have e3 : Same H3 (upd (upd H3 p (.tup (tab t fun k => .ref (ad k)))) f (.tup [.int (1 + (n : Int)), .ref p])) := Same.new (same_new np) nf
    refine q f (1 + n) t Pi p ad _ ⟨by omega, by omega, by omega, fun k hk => (h4 k hk).2⟩ (Kp.same (Kp.trans k_nn k3) e3) (R3.same e3) ⟨?_, keep_new nf upd_same, fun k hk => e3 _ _ (h4 k hk).1⟩
    rw [upd_same]
    rw [show ((1 + n : Nat) : Int) = 1 + (n : Int) by omega]
end
end Rf
namespace Rf
open PySem PySem.Spec L2
local macro_rules | `(tactic| tm_at "hp") => `(tactic| (first | assumption | exact FlowAt.top (by assumption) | exact FlowAt.all (by assumption) | exact FlowAt.pipe (by assumption) _ (by assumption) | exact upd_same | (refine keep_new (by assumption) ?_; tm_at "hp")))
local macro_rules | `(tactic| tm_at "sq") => `(tactic| (first | exact .inl (by assumption) | exact .inr (by assumption) | exact .inr (SqT.of (by tm_at "hp")) | exact .inl (SqL.of (by tm_at "hp"))))
local macro_rules | `(tactic| tm_at "at") => `(tactic| (first | rfl | exact itab_at (by assumption) | exact tab_at (by assumption) | (refine itab_atI ?_ ?_ <;> assumption)))
local macro_rules | `(tactic| tm_at "ix") => `(tactic| (refine' ⟨_, _, _, _, rfl, rfl, ?hs, ?ha, ?_⟩; (case hs => tm_at "sq"); (case ha => tm_at "at")))
local macro_rules | `(tactic| tm_at "len") => `(tactic| (refine' ⟨_, _, rfl, ?hs, ?_⟩; (case hs => tm_at "sq"); (first | rw [itab_len] | rw [tab_len] | rw [List.length_map] | skip)))
local macro_rules | `(tactic| tm_at "rg") => `(tactic| (refine ⟨rg_lo, rg_hi (by omega), ?_⟩))
local macro_rules | `(tactic| tm_at "rgi") => `(tactic| (refine ⟨rgi_lo (by omega), rgi_hi (by omega), ?_⟩))
local macro_rules | `(tactic| tm_at "ut") => `(tactic| (refine' ⟨_, _, rfl, ?hs, ?hl, ?_⟩; (case hs => exact SqT.of (by tm_at "hp")); (case hl => rfl)))
local macro_rules | `(tactic| tm_at "s") => `(tactic| repeat (first | refine ⟨_, rfl, ?_⟩ | refine ⟨_, _, rfl, rfl, ?_⟩ | tm_at "ix" | tm_at "len" | tm_at "ut" | refine ⟨rfl, ?_⟩ | refine ⟨_, _, rfl, ?_⟩ | refine ⟨_, _, _, rfl, ?_⟩ | refine Or.inl ⟨_, rfl, ?_⟩ | refine ⟨Or.inl ⟨rfl, _, SqL.of (by tm_at "hp")⟩, ?_⟩))
local macro_rules | `(tactic| tm_at "tl") => `(tactic| (refine' ⟨_, _, rfl, Or.inl ⟨SqL.of ?hs, ?_⟩⟩; (case hs => tm_at "hp")))
local macro_rules | `(tactic| tm_at "set") => `(tactic| (refine' ⟨_, _, _, _, rfl, rfl, ?hs, ?hj, ?_⟩; (case hs => tm_at "hp"); (case hj => (first | rfl | exact tab_ixN (by assumption)))))
local macro_rules | `(tactic| tm_at "sz") => `(tactic| (first | exact small_ok (Nat.le_of_ble_eq_true rfl) | exact Nat.le_of_ble_eq_true rfl))
local macro_rules | `(tactic| tm_at "acc") => `(tactic| (refine' ⟨_, ?ha, ?hz, ?_⟩; (case ha => tm_at "hp"); (case hz => (first | rw [itab_len] | rw [tab_len] | rw [List.length_map] | skip); exact small_lt (by omega))))
local macro_rules | `(tactic| tm_at "ap") => `(tactic| (refine' ⟨_, _, _, rfl, rfl, ?hs, ?hz, ?_⟩; (case hs => tm_at "hp")))
local macro_rules | `(tactic| tm_at "sm") => `(tactic| (first | assumption | exact Same.refl _ | (refine Same.new ?_ (by assumption); tm_at "sm") | (refine Same.mut ?_ (by assumption); tm_at "sm")))
section
variable {P : Program} {w : World} {K : PySem.W.Frag} {mg : Str → Option Value} {base : Heap}

/-- a pair of boxes -/
def PairIn (M : Int) (_ : Nat) (t : List V) : Prop := ∃ x y : Int, t = [.int x, .int y] ∧ 0 ≤ x ∧ x < M ∧ 0 ≤ y ∧ y < M
/-- a pipe whose rates fit the counts -/
def PipeIn (n : Nat) (cs : Nat → Int) (_ : Nat) (t : List V) : Prop := ∃ p : Pipe, t = p.vs ∧ PipeOk n p 4 ∧ p.give * cs p.one.toNat = p.eat * cs p.other.toNat
theorem rates {a b r : Int} (a1 : 1 ≤ a) (a4 : a ≤ 4) (b1 : 1 ≤ b) (b4 : b ≤ 4) (r1 : 1 ≤ r) (r2 : r ≤ 2) :
    1 ≤ r * b / (Int.gcd a b : Nat) ∧ r * b / (Int.gcd a b : Nat) ≤ 8 ∧ 1 ≤ r * a / (Int.gcd a b : Nat) ∧ r * a / (Int.gcd a b : Nat) ≤ 8 ∧ r * b / (Int.gcd a b : Nat) * a = r * a / (Int.gcd a b : Nat) * b ∧ 1 ≤ Int.gcd a b ∧ Int.gcd a b ≤ 4 := by
  obtain rfl | rfl | rfl | rfl : a = 1 ∨ a = 2 ∨ a = 3 ∨ a = 4 := by omega
  all_goals
    obtain rfl | rfl | rfl | rfl : b = 1 ∨ b = 2 ∨ b = 3 ∨ b = 4 := by omega
  all_goals
    obtain rfl | rfl : r = 1 ∨ r = 2 := by omega
  all_goals decide
theorem ok_flow (D : Df K mg "_law_flow" s_flow p_flow) (T : Tx mg) (C_taken : Ca P w K mg base CX0 1 "_law_taken" p_taken (spTaken K)) (C_pick : Ca P w K mg base CX0 2 "_law_pick" p_pick (spPick K)) (C_gcd : Ca P w K mg base CX0 1 "_law_gcd" p_gcd spGcd) : Ca P w K mg base CX0 3 "_law_flow" p_flow (spFlow K) := by
  obtain ⟨f_taken, fd_taken, G_taken, m_taken, k_taken, b_taken⟩ := C_taken
  obtain ⟨f_pick, fd_pick, G_pick, m_pick, k_pick, b_pick⟩ := C_pick
  obtain ⟨f_gcd, fd_gcd, G_gcd, m_gcd, k_gcd, b_gcd⟩ := C_gcd
  obtain ⟨f0, fd0, F0, gf0, bf0⟩ := D
  refine ⟨f0, fd0, ?_, gf0, F0.kp, bf0⟩
  refine F0.ok sc_flow (fun vs H Q E h => ?_) (fun cdv A outer s0 H vs Q E hr h => ?_)
  · obtain ⟨row, sc, rfl, _⟩ := h
    rfl
  obtain ⟨row, sc, rfl, hR, q⟩ := h
  refine ⟨_, (pss_cons (ps_par3 (i := 3) (j := 4) (l := 5) (by rfl) sc_flow.nd rfl rfl rfl (by decide) (by decide) (by decide) rfl rfl rfl (pa_cons (pe_op op_add pe_int (pe_call G_taken (hr.mono (by decide)) (by rfl) m_taken k_taken b_taken .nil pass0 (pa_cons (pv 0) (pa_cons (pv 1) pa_nil)))) (pa_cons (pe_call G_taken (hr.mono (by decide)) (by rfl) m_taken k_taken b_taken .nil pass0 (pa_cons (pv 0) (pa_cons pe_int pa_nil))) (pa_cons (pe_lst pa_nil) pa_nil))) (by rfl)) (pss_cons (ps_setLc (i := 6) (own := [("_law_k", 7)]) (g := gName 7) (by rfl) sc_flow.nd rfl rfl (sw_true rfl rfl rfl (by decide +kernel)) (pi_range1 (by rfl) T.z_range (pa_cons (pv 3) pa_nil)) (blkOk_by (own := [("_law_k", 7)]) (N := n_flow) (sc := defScope s_flow) (by decide +kernel)) (fun _ _ _ _ _ => pg_name (i := 7) sc_flow.nd rfl (Or.inl rfl)) (fun _ _ _ _ _ => pts_nil) (fun _ _ _ _ _ => (pe_op op_add pe_int (pe_call G_taken (hr.mono (by decide)) (by rfl) m_taken k_taken b_taken .nil pass0 (pa_cons (pv 0) (pa_cons (pe_call G_pick (hr.mono (by decide)) (by rfl) m_pick k_pick b_pick .nil pass0 (pa_cons (pv 0) (pa_cons (pe_lst (pa_cons pe_int (pa_cons pe_int (pa_cons pe_int pa_nil)))) pa_nil))) pa_nil)))))) (pss_cons (ps_for PassesOwn.never rfl (pi_range2 (by rfl) T.z_range (pa_cons pe_int (pa_cons (pv 3) pa_nil))) (pg_name (i := 7) sc_flow.nd rfl (.inl rfl)) (pss_one (ps_if (pt_cmpR op_gt (pe_call G_taken (hr.mono (by decide)) (by rfl) m_taken k_taken b_taken .nil pass0 (pa_cons (pv 0) (pa_cons pe_int pa_nil))) pe_int (nomark _)) (pss_cons (ps_set (i := 8) sc_flow.nd rfl (.inl rfl) (pe_tup (pa_cons (pe_ifExp (pt_cmpR op_eq (pv 4) pe_int (nomark _)) (pe_op op_sub (pv 7) pe_int) (pe_call G_taken (hr.mono (by decide)) (by rfl) m_taken k_taken b_taken .nil pass0 (pa_cons (pv 0) (pa_cons (pv 7) pa_nil)))) (pa_cons (pv 7) pa_nil)))) (pss_one (ps_expr (pe_bm PySem.F.plainAttrs_list PySem.F.slot_list_append PySem.F.type_list_append mt_append (pv 5) (pa_cons (pe_ifExp (pt_cmpR op_gt (pe_call G_taken (hr.mono (by decide)) (by rfl) m_taken k_taken b_taken .nil pass0 (pa_cons (pv 0) (pa_cons pe_int pa_nil))) pe_int (nomark _)) (pv 8) (pe_tup (pa_cons (pe_ix (ix_ltK (K := K) rfl) (pv 8) pe_int (fun _ _ => rfl)) (pa_cons (pe_ix (ix_ltK (K := K) rfl) (pv 8) pe_int (fun _ _ => rfl)) pa_nil)))) pa_nil))))) pss_nil))) (pss_ct (ps_for PassesOwn.never rfl (pi_range1 (by rfl) T.z_range (pa_cons (pe_ifExp (pt_cmpR op_gt (pv 4) pe_int (nomark _)) (pe_call G_taken (hr.mono (by decide)) (by rfl) m_taken k_taken b_taken .nil pass0 (pa_cons (pv 0) (pa_cons pe_int pa_nil))) pe_int) pa_nil)) (pg_name (i := 9) sc_flow.nd rfl (.inl rfl)) (pss_one (ps_expr (pe_bm PySem.F.plainAttrs_list PySem.F.slot_list_append PySem.F.type_list_append mt_append (pv 5) (pa_cons (pe_tup (pa_cons (pe_call G_taken (hr.mono (by decide)) (by rfl) m_taken k_taken b_taken .nil pass0 (pa_cons (pv 0) (pa_cons (pv 3) pa_nil))) (pa_cons (pe_call G_taken (hr.mono (by decide)) (by rfl) m_taken k_taken b_taken .nil pass0 (pa_cons (pv 0) (pa_cons (pv 3) pa_nil))) pa_nil))) pa_nil))))) (pss_cons (ps_set (i := 10) sc_flow.nd rfl (.inl rfl) (pe_lst pa_nil)) (pss_cons (ps_for PassesOwn.never rfl (pi_listK (K := K) rfl (pv 5)) (pg_tupK (K := K) rfl (by rfl) (pgs_cons (pg_name (i := 11) sc_flow.nd rfl (.inl rfl)) (pgs_cons (pg_name (i := 12) sc_flow.nd rfl (.inl rfl)) pgs_nil))) (pss_cons (ps_set (i := 13) sc_flow.nd rfl (.inl rfl) (pe_call G_gcd (hr.mono (by decide)) (by rfl) m_gcd k_gcd b_gcd .nil pass0 (pa_cons (pe_ix (ix_ltK (K := K) rfl) (pv 6) (pv 11) (fun _ _ => rfl)) (pa_cons (pe_ix (ix_ltK (K := K) rfl) (pv 6) (pv 12) (fun _ _ => rfl)) pa_nil)))) (pss_cons (ps_set (i := 14) sc_flow.nd rfl (.inl rfl) (pe_call G_pick (hr.mono (by decide)) (by rfl) m_pick k_pick b_pick .nil pass0 (pa_cons (pv 0) (pa_cons (pe_lst (pa_cons pe_int (pa_cons pe_int (pa_cons pe_int pa_nil)))) pa_nil)))) (pss_one (ps_expr (pe_bm PySem.F.plainAttrs_list PySem.F.slot_list_append PySem.F.type_list_append mt_append (pv 10) (pa_cons (pe_tup (pa_cons (pv 11) (pa_cons (pv 12) (pa_cons (pe_op op_fdivW (pe_op op_mul (pv 14) (pe_ix (ix_ltK (K := K) rfl) (pv 6) (pv 12) (fun _ _ => rfl))) (pv 13)) (pa_cons (pe_op op_fdivW (pe_op op_mul (pv 14) (pe_ix (ix_ltK (K := K) rfl) (pv 6) (pv 11) (fun _ _ => rfl))) (pv 13)) (pa_cons (pe_call G_taken (hr.mono (by decide)) (by rfl) m_taken k_taken b_taken .nil pass0 (pa_cons (pv 0) (pa_cons (pe_op op_add (pv 2) pe_int) pa_nil))) pa_nil)))))) pa_nil))))))) (pss_one (ps_ret (pe_tup (pa_cons (pv 3) (pa_cons (pe_callTy (call_tupleK (K := K) rfl) (by rfl) T.z_tuple (by decide +kernel) (pa_cons (pv 10) pa_nil)) pa_nil))))))))))), ?_⟩
  obtain ⟨rxs, hrl⟩ := hR.lst
  tm_at "s"
  refine ⟨_, _, _, rfl, hR, by first | decide | omega, by first | decide | omega, fun nn H_nn nn0 nn1 k_nn R_nn => ?_⟩
  tm_at "s"
  refine ⟨_, _, _, rfl, R_nn, by first | decide | omega, by first | decide | omega, fun ww H_ww ww0 ww1 k_ww R_ww => ?_⟩
  obtain ⟨n, rfl⟩ := Int.eq_ofNat_of_zero_le nn0
  refine ⟨by tm_at "sz", fun l nl => ?_⟩
  tm_at "s"
  have k1 : Kp row H (upd H_ww l (.lst [])) := Kp.new (Kp.trans k_nn k_ww) nl
  have R1 : RowAt K (upd H_ww l (.lst [])) row sc := R_ww.same (same_new nl)
  have lr : l ≠ row := R_ww.ne nl
  have L1 : LR (upd H_ww l (.lst [])) l 0 (PairIn (1 + (n : Int))) := LR.nil
  have l0 : H l = none := (Kp.trans k_nn k_ww).free nl lr
  generalize upd H_ww l (.lst []) = H1 at k1 R1 L1 ⊢
  -- the counts
  tm_at "s"
  tm_at "rgi"
  refine fun D nD => ?_
  have Dr : D ≠ row := R1.ne nD
  have Dl : D ≠ l := by
    obtain ⟨_, h, _⟩ := L1.len
    exact (ne_of_none h nD).symm
  have D0 : H D = none := k1.free nD Dr
  refine comp_rng (n := 1 + n) (fun i H2 => Kp row H1 H2 ∧ RowAt K H2 row sc ∧ ∃ cs : Nat → Int, H2 D = some (.lst (itab i cs)) ∧ ∀ k, 1 ≤ cs k ∧ cs k ≤ 4) ⟨Same.kp (same_new nD), R1.same (same_new nD), fun _ => 1, upd_same, fun _ => ⟨Int.le_refl 1, by show (1 : Int) ≤ 4; decide⟩⟩ ?_ ?_
  · rintro i H2 hi ⟨k2, R2, cs, h2, h3⟩
    refine ⟨rfl, ?_⟩
    tm_at "s"
    refine ⟨by tm_at "sz", fun t nt => ?_⟩
    refine ⟨_, _, _, _, rfl, R2.same (same_new nt), upd_same, R2.ne nt, by tm_at "sz", by tm_at "sz", fun kk v H3 hv k3 R3 => ?_⟩
    obtain ⟨u, rfl, u1, u2⟩ : ∃ u : Int, v = .int u ∧ 1 ≤ u ∧ u ≤ 4 := by
      match kk, hv with
      | 0, hv => cases hv; exact ⟨1, rfl, by decide, by decide⟩
      | 1, hv => cases hv; exact ⟨3, rfl, by decide, by decide⟩
      | 2, hv => cases hv; exact ⟨4, rfl, by decide, by decide⟩
    tm_at "s"
    refine ⟨_, _, _, rfl, R3, by first | decide | omega, by first | decide | omega, fun c H_c c0 c1 k_c R_c => ?_⟩
    tm_at "s"
    have k4 : Kp row H2 H_c := Kp.trans (Kp.trans (Same.kp (same_new nt)) k3) k_c
    refine ⟨_, k4 _ _ Dr h2, small_lt (by rw [itab_len]; omega), Kp.mut (Kp.trans k2 k4) nD, R_c.mut R1 nD, ext cs i (1 + c), ?_, fun k => ?_⟩
    · rw [upd_same]
      exact congrArg (fun z => some (HO.lst z)) (tab_ext V.int)
    · by_cases e : k = i
      · subst e
        rw [ext_same]
        omega
      · rw [ext_ne e]
        exact h3 k
  rintro H2 ⟨k2, R2, cs, h2, h3⟩
  have L2' : LR H2 l 0 (PairIn (1 + (n : Int))) := by
    obtain ⟨rx, hx⟩ := R1.lst
    exact L1.kp k2 hx lr
  have k2 := Kp.trans k1 k2
  -- the pipes
  tm_at "s"
  refine ⟨⟨rgi_lo (by omega), rgi_hi (by omega), rgi_lo (by omega), rgi_hi (by omega)⟩, ?_⟩
  rw [show (1 + (n : Int) - 1).toNat = n by omega]
  refine for_range (lo := 1) (n := n) (fun i σ H3 => ∃ (j : Nat) (x7 x8 : Option V), σ = [some (.ref row), some (.int 4), some (.int 4), some (.int (1 + (n : Int))), some (.int ww), some (.ref l), some (.ref D), x7, x8, none, none, none, none, none, none] ∧ j ≤ i ∧ Kp row H H3 ∧ RowAt K H3 row sc ∧ LR H3 l j (PairIn (1 + (n : Int))) ∧ H3 D = some (.lst (itab (1 + n) cs)))
    ⟨0, none, none, rfl, Nat.le_refl _, k2, R2, L2', h2⟩ ?_ ?_
  · rintro i σ H3 hi ⟨j, x7, x8, rfl, hj, k3, R3, L3, h4⟩
    tm_at "s"
    refine ⟨_, _, _, rfl, R3, by first | decide | omega, by first | decide | omega, fun a H_a a0 a1 k_a R_a => ?_⟩
    obtain ⟨rx3, hx3⟩ := R3.lst
    have L4 := L3.kp k_a hx3 lr
    have h5 := k_a _ _ Dr h4
    have k5 := Kp.trans k3 k_a
    tm_at "s"
    refine ite_dec (fun c => ?_) (fun c => ?_)
    · tm_at "s"
      refine ite_eqi (fun c1 => ?_) (fun c1 => ?_)
      · tm_at "s"
        refine ⟨by tm_at "sz", fun p np => ?_⟩
        have sp := same_new (o := .tup [.int (1 + (i : Int) - 1), .int (1 + (i : Int))]) np
        have hp : upd H_a p (.tup [.int (1 + (i : Int) - 1), .int (1 + (i : Int))]) p = some (.tup [.int (1 + (i : Int) - 1), .int (1 + (i : Int))]) := upd_same
        obtain ⟨xl, hxl, hxn⟩ := (L4.same sp).len
        tm_at "s"
        refine ⟨_, _, _, rfl, R_a.same sp, by first | decide | omega, by first | decide | omega, fun b H_b b0 b1 k_b R_b => ?_⟩
        obtain ⟨rxp, hxp⟩ := (R_a.same sp).lst
        have L6 := (L4.same sp).kp k_b hxp lr
        have hl6 := k_b _ _ lr hxl
        have hp6 := k_b _ _ (R_a.ne np) hp
        have h7 := k_b _ _ Dr (sp _ _ h5)
        have k7 := Kp.trans (Kp.same k5 sp) k_b
        tm_at "s"
        refine ite_dec (fun c2 => ?_) (fun c2 => ?_)
        · tm_at "s"
          refine ⟨l, _, _, rfl, rfl, hl6, small_lt (by omega), j + 1, _, _, rfl, by omega, Kp.mut k7 l0, R_b.mut hR l0, L6.add hl6 hp6 ⟨_, _, rfl, by omega, by omega, by omega, by omega⟩, ?_⟩
          exact keep_ne Dl h7
        · tm_at "s"
          refine ⟨by tm_at "sz", fun p2 np2 => ?_⟩
          have sp2 := same_new (o := .tup [.int (1 + (i : Int)), .int (1 + (i : Int) - 1)]) np2
          refine ⟨l, _, _, rfl, rfl, sp2 _ _ hl6, small_lt (by omega), j + 1, _, _, rfl, by omega, Kp.mut (Kp.same k7 sp2) l0, (R_b.same sp2).mut hR l0, (L6.same sp2).add (sp2 _ _ hl6) upd_same ⟨_, _, rfl, by omega, by omega, by omega, by omega⟩, ?_⟩
          exact keep_ne Dl (sp2 _ _ h7)
      · tm_at "s"
        refine ⟨_, _, _, rfl, R_a, by first | decide | omega, by first | decide | omega, fun v H_v v0 v1 k_v R_v => ?_⟩
        obtain ⟨rxa, hxa⟩ := R_a.lst
        have L5 := L4.kp k_v hxa lr
        have h6 := k_v _ _ Dr h5
        have k6 := Kp.trans k5 k_v
        tm_at "s"
        refine ⟨by tm_at "sz", fun p np => ?_⟩
        have sp := same_new (o := .tup [.int (v), .int (1 + (i : Int))]) np
        have hp : upd H_v p (.tup [.int (v), .int (1 + (i : Int))]) p = some (.tup [.int (v), .int (1 + (i : Int))]) := upd_same
        obtain ⟨xl, hxl, hxn⟩ := (L5.same sp).len
        tm_at "s"
        refine ⟨_, _, _, rfl, R_v.same sp, by first | decide | omega, by first | decide | omega, fun b H_b b0 b1 k_b R_b => ?_⟩
        obtain ⟨rxp, hxp⟩ := (R_v.same sp).lst
        have L6 := (L5.same sp).kp k_b hxp lr
        have hl6 := k_b _ _ lr hxl
        have hp6 := k_b _ _ (R_v.ne np) hp
        have h7 := k_b _ _ Dr (sp _ _ h6)
        have k7 := Kp.trans (Kp.same k6 sp) k_b
        tm_at "s"
        refine ite_dec (fun c2 => ?_) (fun c2 => ?_)
        · tm_at "s"
          refine ⟨l, _, _, rfl, rfl, hl6, small_lt (by omega), j + 1, _, _, rfl, by omega, Kp.mut k7 l0, R_b.mut hR l0, L6.add hl6 hp6 ⟨_, _, rfl, by omega, by omega, by omega, by omega⟩, ?_⟩
          exact keep_ne Dl h7
        · tm_at "s"
          refine ⟨by tm_at "sz", fun p2 np2 => ?_⟩
          have sp2 := same_new (o := .tup [.int (1 + (i : Int)), .int (v)]) np2
          refine ⟨l, _, _, rfl, rfl, sp2 _ _ hl6, small_lt (by omega), j + 1, _, _, rfl, by omega, Kp.mut (Kp.same k7 sp2) l0, (R_b.same sp2).mut hR l0, (L6.same sp2).add (sp2 _ _ hl6) upd_same ⟨_, _, rfl, by omega, by omega, by omega, by omega⟩, ?_⟩
          exact keep_ne Dl (sp2 _ _ h7)
    · exact ⟨j, _, _, rfl, by omega, k5, R_a, L4, h5⟩
  rintro σ H3 ⟨j, x7, x8, rfl, hj, k3, R3, L3, h4⟩
  refine ⟨fun σ H4 => ∃ (j : Nat) (x7 x8 x9 : Option V), σ = [some (.ref row), some (.int 4), some (.int 4), some (.int (1 + (n : Int))), some (.int ww), some (.ref l), some (.ref D), x7, x8, x9, none, none, none, none, none] ∧ j ≤ 6 ∧ Kp row H H4 ∧ RowAt K H4 row sc ∧ LR H4 l j (PairIn (1 + (n : Int))) ∧ H4 D = some (.lst (itab (1 + n) cs)), ?_, ?_⟩
  · tm_at "s"
    refine ite_dec (fun c => ?_) (fun c => ?_)
    · tm_at "s"
      refine ⟨_, _, _, rfl, R3, by first | decide | omega, by first | decide | omega, fun u H_u u0 u1 k_u R_u => ?_⟩
      obtain ⟨u, rfl⟩ := Int.eq_ofNat_of_zero_le u0
      obtain ⟨rx, hx⟩ := R3.lst
      tm_at "s"
      tm_at "rg"
      refine for_rng (n := u) (fun i σ H4 => ∃ (j : Nat) (x9 : Option V), σ = [some (.ref row), some (.int 4), some (.int 4), some (.int (1 + (n : Int))), some (.int ww), some (.ref l), some (.ref D), x7, x8, x9, none, none, none, none, none] ∧ j ≤ 3 + i ∧ Kp row H H4 ∧ RowAt K H4 row sc ∧ LR H4 l j (PairIn (1 + (n : Int))) ∧ H4 D = some (.lst (itab (1 + n) cs)))
        ⟨j, _, rfl, by omega, Kp.trans k3 k_u, R_u, L3.kp k_u hx lr, k_u _ _ Dr h4⟩ ?_ ?_
      · rintro i σ H4 hi ⟨j, x9, rfl, hj, k4, R4, L4, h5⟩
        obtain ⟨xl, hxl, hxn⟩ := L4.len
        tm_at "s"
        refine ⟨_, _, _, rfl, R4, by first | decide | omega, by first | decide | omega, fun a H_a a0 a1 k_a R_a => ?_⟩
        tm_at "s"
        refine ⟨_, _, _, rfl, R_a, by first | decide | omega, by first | decide | omega, fun b H_b b0 b1 k_b R_b => ?_⟩
        obtain ⟨rx4, hx4⟩ := R4.lst
        have k5 := Kp.trans k_a k_b
        refine ⟨by tm_at "sz", fun p np => ?_⟩
        have sp := same_new (o := .tup [.int a, .int b]) np
        have hl5 := sp _ _ (k5 _ _ lr hxl)
        refine ⟨l, _, _, rfl, rfl, hl5, small_lt (by omega), j + 1, _, rfl, by omega, Kp.mut (Kp.same (Kp.trans k4 k5) sp) l0, (R_b.same sp).mut hR l0, ((L4.kp k5 hx4 lr).same sp).add hl5 upd_same ⟨_, _, rfl, by omega, by omega, by omega, by omega⟩, ?_⟩
        exact keep_ne Dl (sp _ _ (k5 _ _ Dr h5))
      · rintro σ H4 ⟨j, x9, rfl, hj, k4, R4, L4, h5⟩
        exact ⟨j, _, _, _, rfl, by omega, k4, R4, L4, h5⟩
    · tm_at "s"
      refine ⟨rgi_lo (by decide), rgi_hi (by decide), ?_⟩
      refine for_rng (n := 0) (fun i σ H4 => σ = [some (.ref row), some (.int 4), some (.int 4), some (.int (1 + (n : Int))), some (.int ww), some (.ref l), some (.ref D), x7, x8, none, none, none, none, none, none] ∧ H4 = H3) ⟨rfl, rfl⟩ (fun i σ H4 hi _ => absurd hi (Nat.not_lt_zero i)) ?_
      rintro σ H4 ⟨rfl, rfl⟩
      exact ⟨j, _, _, _, rfl, by omega, k3, R3, L3, h4⟩
  clear k3 R3 L3 h4 hj
  rintro σ H4 ⟨m, x7, x8, x9, rfl, hm, k4, R4, L4, h5⟩
  tm_at "s"
  -- the pipes with their rates
  refine ⟨by tm_at "sz", fun D2 nD2 => ?_⟩
  have s5 := same_new (o := .lst []) nD2
  have D2r : D2 ≠ row := R4.ne nD2
  have D20 : H D2 = none := k4.free nD2 D2r
  have M5 : LR (upd H4 D2 (.lst [])) D2 0 (PipeIn (1 + n) cs) := LR.nil
  have R5 := R4.same s5
  have D2l : D2 ≠ l := by
    obtain ⟨_, h, _⟩ := L4.len
    exact (ne_of_none h nD2).symm
  have D2D : D2 ≠ D := (ne_of_none h5 nD2).symm
  obtain ⟨ad, ts, hl4, hts4⟩ := L4
  generalize upd H4 D2 (.lst []) = H5 at s5 M5 R5 ⊢
  tm_at "s"
  refine ⟨⟨_, SqL.of (s5 _ _ hl4)⟩, ?_⟩
  refine for_list (K := K) (a := l) (xs := tab m fun k => .ref (ad k)) (fun i σ H6 => ∃ (x11 x12 x13 x14 : Option V), σ = [some (.ref row), some (.int 4), some (.int 4), some (.int (1 + (n : Int))), some (.int ww), some (.ref l), some (.ref D), x7, x8, x9, some (.ref D2), x11, x12, x13, x14] ∧ Kp row H4 H6 ∧ RowAt K H6 row sc ∧ LR H6 D2 i (PipeIn (1 + n) cs))
    ⟨none, none, none, none, rfl, Same.kp s5, R5, M5⟩ ?_ ?_ ?_
  · rintro i σ H6 hi ⟨x11, x12, x13, x14, rfl, k6, R6, M6⟩
    exact SqL.of (k6 _ _ lr hl4)
  · rintro i x σ H6 hx ⟨x11, x12, x13, x14, rfl, k6, R6, M6⟩
    obtain ⟨him, rfl⟩ := tab_some hx
    obtain ⟨ht4, y, z, ety, y0, y1, z0, z1⟩ := hts4 i him
    rw [ety] at ht4
    have ht6 := k6 _ _ (R4.ne_tup ht4) ht4
    have hD6 := k6 _ _ Dr h5
    have y1' : y < ((1 + n : Nat) : Int) := by omega
    have z1' : z < ((1 + n : Nat) : Int) := by omega
    tm_at "s"
    refine ⟨by tm_at "sz", fun t nt => ?_⟩
    refine ⟨_, _, _, _, rfl, R6.same (same_new nt), upd_same, R6.ne nt, by tm_at "sz", by tm_at "sz", fun kk v H7 hv k7 R7 => ?_⟩
    obtain ⟨u, rfl, u1, u2⟩ : ∃ u : Int, v = .int u ∧ 1 ≤ u ∧ u ≤ 2 := by
      match kk, hv with
      | 0, hv => cases hv; exact ⟨1, rfl, by decide, by decide⟩
      | 1, hv => cases hv; exact ⟨1, rfl, by decide, by decide⟩
      | 2, hv => cases hv; exact ⟨2, rfl, by decide, by decide⟩
    obtain ⟨rx6, hx6⟩ := R6.lst
    have M7 := (M6.same (same_new nt)).kp k7 (same_new nt _ _ hx6) D2r
    have k7' : Kp row H6 H7 := Kp.trans (Same.kp (same_new nt)) k7
    have hD7 := k7' _ _ Dr hD6
    obtain ⟨xl, hxl, hxn⟩ := M7.len
    obtain ⟨g1, g2, g3, g4, g5, g6, g7⟩ := rates (h3 y.toNat).1 (h3 y.toNat).2 (h3 z.toNat).1 (h3 z.toNat).2 u1 u2
    have dv : ∀ q : Int, CDivW q ((Int.gcd (cs y.toNat) (cs z.toNat) : Nat) : Int) := fun q => wide_div (b := 100) (by omega) (by omega) (by decide) (by decide)
    tm_at "s"
    refine ⟨cmul_ok (by omega) (by omega), ?_⟩
    tm_at "s"
    refine ⟨dv _, ?_⟩
    tm_at "s"
    refine ⟨cmul_ok (by omega) (by omega), ?_⟩
    tm_at "s"
    refine ⟨dv _, ?_⟩
    tm_at "s"
    refine ⟨_, _, _, rfl, R7, by first | decide | omega, by first | decide | omega, fun e H_e e0 e1 k_e R_e => ?_⟩
    obtain ⟨rx7, hx7⟩ := R7.lst
    refine ⟨by tm_at "sz", fun p np => ?_⟩
    have sp := same_new (o := .tup [.int y, .int z, .int (u * cs z.toNat / (Int.gcd (cs y.toNat) (cs z.toNat) : Nat)), .int (u * cs y.toNat / (Int.gcd (cs y.toNat) (cs z.toNat) : Nat)), .int e]) np
    have hxe := sp _ _ (k_e _ _ D2r hxl)
    refine ⟨D2, _, _, rfl, rfl, hxe, small_lt (by omega), _, _, _, _, rfl, Kp.mut (Kp.same (Kp.trans (Kp.trans k6 k7') k_e) sp) nD2, (R_e.same sp).mut R4 nD2, ((M7.kp k_e hx7 D2r).same sp).add hxe upd_same ⟨⟨y, z, _, _, e⟩, rfl, ⟨y0, y1', z0, z1', g1, g2, g3, g4, e0, by show e ≤ 4; omega⟩, g5⟩⟩
  · rintro σ H6 ⟨x11, x12, x13, x14, rfl, k6, R6, M6⟩
    rw [tab_len] at M6
    obtain ⟨ad2, ts2, hl6, hts6⟩ := M6
    tm_at "s"
    refine ⟨_, _, rfl, .inl ⟨SqL.of hl6, fun p np => ⟨by tm_at "sz", fun f nf => ?_⟩⟩⟩
    have e3 : Same H6 (upd (upd H6 p (.tup (tab m fun k => .ref (ad2 k)))) f (.tup [.int (1 + (n : Int)), .ref p])) := Same.new (same_new np) nf
    have hp : ∀ k, ∃ p : Pipe, k < m → ts2 k = p.vs ∧ PipeOk (1 + n) p 4 ∧ p.give * cs p.one.toNat = p.eat * cs p.other.toNat := fun k => by
      by_cases hk : k < m
      · obtain ⟨p, h⟩ := (hts6 k hk).2
        exact ⟨p, fun _ => h⟩
      · exact ⟨⟨0, 0, 0, 0, 0⟩, fun h => absurd h hk⟩
    obtain ⟨Pi, hPi⟩ := Classical.axiomOfChoice hp
    refine q f (1 + n) m Pi (fun b => cs b.toNat) p ad2 _ ⟨by omega, by omega, by omega, fun k hk => (hPi k hk).2.1⟩ ⟨fun b => h3 b.toNat, fun k hk => (hPi k hk).2.2⟩ (Kp.same (Kp.trans k4 k6) e3) (R6.same e3) ⟨?_, keep_new nf upd_same, fun k hk => e3 _ _ (by rw [(hts6 k hk).1, (hPi k hk).1])⟩
    rw [upd_same]
    rw [show ((1 + n : Nat) : Int) = 1 + (n : Int) by omega]
end
end Rf
namespace Rf
open PySem PySem.Spec L2
local macro_rules | `(tactic| tm_at "hp") => `(tactic| (first | assumption | exact FlowAt.top (by assumption) | exact FlowAt.all (by assumption) | exact FlowAt.pipe (by assumption) _ (by assumption) | exact upd_same | (refine keep_new (by assumption) ?_; tm_at "hp")))
local macro_rules | `(tactic| tm_at "sq") => `(tactic| (first | exact .inl (by assumption) | exact .inr (by assumption) | exact .inr (SqT.of (by tm_at "hp")) | exact .inl (SqL.of (by tm_at "hp"))))
local macro_rules | `(tactic| tm_at "at") => `(tactic| (first | rfl | exact itab_at (by assumption) | exact tab_at (by assumption) | (refine itab_atI ?_ ?_ <;> assumption)))
local macro_rules | `(tactic| tm_at "ix") => `(tactic| (refine' ⟨_, _, _, _, rfl, rfl, ?hs, ?ha, ?_⟩; (case hs => tm_at "sq"); (case ha => tm_at "at")))
local macro_rules | `(tactic| tm_at "len") => `(tactic| (refine' ⟨_, _, rfl, ?hs, ?_⟩; (case hs => tm_at "sq"); (first | rw [itab_len] | rw [tab_len] | rw [List.length_map] | skip)))
local macro_rules | `(tactic| tm_at "rg") => `(tactic| (refine ⟨rg_lo, rg_hi (by omega), ?_⟩))
local macro_rules | `(tactic| tm_at "rgi") => `(tactic| (refine ⟨rgi_lo (by omega), rgi_hi (by omega), ?_⟩))
local macro_rules | `(tactic| tm_at "ut") => `(tactic| (refine' ⟨_, _, rfl, ?hs, ?hl, ?_⟩; (case hs => exact SqT.of (by tm_at "hp")); (case hl => rfl)))
local macro_rules | `(tactic| tm_at "s") => `(tactic| repeat (first | refine ⟨_, rfl, ?_⟩ | refine ⟨_, _, rfl, rfl, ?_⟩ | tm_at "ix" | tm_at "len" | tm_at "ut" | refine ⟨rfl, ?_⟩ | refine ⟨_, _, rfl, ?_⟩ | refine ⟨_, _, _, rfl, ?_⟩ | refine Or.inl ⟨_, rfl, ?_⟩ | refine ⟨Or.inl ⟨rfl, _, SqL.of (by tm_at "hp")⟩, ?_⟩))
local macro_rules | `(tactic| tm_at "tl") => `(tactic| (refine' ⟨_, _, rfl, Or.inl ⟨SqL.of ?hs, ?_⟩⟩; (case hs => tm_at "hp")))
local macro_rules | `(tactic| tm_at "set") => `(tactic| (refine' ⟨_, _, _, _, rfl, rfl, ?hs, ?hj, ?_⟩; (case hs => tm_at "hp"); (case hj => (first | rfl | exact tab_ixN (by assumption)))))
local macro_rules | `(tactic| tm_at "sz") => `(tactic| (first | exact small_ok (Nat.le_of_ble_eq_true rfl) | exact Nat.le_of_ble_eq_true rfl))
local macro_rules | `(tactic| tm_at "acc") => `(tactic| (refine' ⟨_, ?ha, ?hz, ?_⟩; (case ha => tm_at "hp"); (case hz => (first | rw [itab_len] | rw [tab_len] | rw [List.length_map] | skip); exact small_lt (by omega))))
local macro_rules | `(tactic| tm_at "ap") => `(tactic| (refine' ⟨_, _, _, rfl, rfl, ?hs, ?hz, ?_⟩; (case hs => tm_at "hp")))
local macro_rules | `(tactic| tm_at "sm") => `(tactic| (first | assumption | exact Same.refl _ | (refine Same.new ?_ (by assumption); tm_at "sm") | (refine Same.mut ?_ (by assumption); tm_at "sm")))
section
variable {P : Program} {w : World} {K : PySem.W.Frag} {mg : Str → Option Value} {base : Heap}

theorem ok_joined (D : Df K mg "_law_joined" s_joined p_joined) (T : Tx mg) : Ca P w K mg base CX0 1 "_law_joined" p_joined spJoined := by
  obtain ⟨f0, fd0, F0, gf0, bf0⟩ := D
  refine ⟨f0, fd0, ?_, gf0, F0.kp, bf0⟩
  refine F0.ok sc_joined (fun vs H Q E h => ?_) (fun cdv A outer s0 H vs Q E hr h => ?_)
  · obtain ⟨f, box, both, n, m, Pi, pa, ad, rfl, _⟩ := h
    rfl
  obtain ⟨f, box, both, n, m, Pi, pa, ad, rfl, hF, hO, b0, b1, q⟩ := h
  have hn5 := hO.n5
  have hm6 := hO.m6
  refine ⟨_, (pss_cons (ps_set (i := 3) sc_joined.nd rfl (.inr rfl) (pe_lst (pa_cons (pv 1) pa_nil))) (pss_cons (ps_for PassesOwn.never rfl (pi_range1 (by rfl) T.z_range (pa_cons (pe_ix (ix_ltK (K := K) rfl) (pv 0) pe_int (fun _ _ => rfl)) pa_nil)) (pg_name (i := 4) sc_joined.nd rfl (.inl rfl)) (pss_cons (ps_set (i := 5) sc_joined.nd rfl (.inr rfl) (pe_lc (own := [("_law_pipe", 6)]) (g := gName 6) (by rfl) sc_joined.nd (pi_tupK (K := K) rfl (pe_ix (ix_ltK (K := K) rfl) (pv 0) pe_int (fun _ _ => rfl))) (blkOk_by (own := [("_law_pipe", 6)]) (N := n_joined) (sc := defScope s_joined) (by decide +kernel)) (fun _ _ _ _ _ => pg_name (i := 6) sc_joined.nd rfl (Or.inl rfl)) (fun _ _ _ _ _ => pts_one (pt_cmpR (op_inK (K := K) rfl) (pe_ix (ix_ltK (K := K) rfl) (pv 6) pe_int (fun _ _ => rfl)) (pv 3) (by rfl))) (fun _ _ _ _ _ => (pe_ix (ix_ltK (K := K) rfl) (pv 6) pe_int (fun _ _ => rfl))))) (pss_cons (ps_set (i := 5) sc_joined.nd rfl (.inr rfl) (pe_op op_cat (pv 5) (pe_lc (own := [("_law_pipe", 6)]) (g := gName 6) (by rfl) sc_joined.nd (pi_tupK (K := K) rfl (pe_ix (ix_ltK (K := K) rfl) (pv 0) pe_int (fun _ _ => rfl))) (blkOk_by (own := [("_law_pipe", 6)]) (N := n_joined) (sc := defScope s_joined) (by decide +kernel)) (fun _ _ _ _ _ => pg_name (i := 6) sc_joined.nd rfl (Or.inl rfl)) (fun _ _ _ _ _ => pts_one (PW.pt (pw_and (pt_val (pv 2)) (pw_and1 (pt_cmpR (op_inK (K := K) rfl) (pe_ix (ix_ltK (K := K) rfl) (pv 6) pe_int (fun _ _ => rfl)) (pv 3) (by rfl)))))) (fun _ _ _ _ _ => (pe_ix (ix_ltK (K := K) rfl) (pv 6) pe_int (fun _ _ => rfl)))))) (pss_one (ps_set (i := 3) sc_joined.nd rfl (.inr rfl) (pe_lc (own := [("_law_k", 7)]) (g := gName 7) (by rfl) sc_joined.nd (pi_range1 (by rfl) T.z_range (pa_cons (pe_ix (ix_ltK (K := K) rfl) (pv 0) pe_int (fun _ _ => rfl)) pa_nil)) (blkOk_by (own := [("_law_k", 7)]) (N := n_joined) (sc := defScope s_joined) (by decide +kernel)) (fun _ _ _ _ _ => pg_name (i := 7) sc_joined.nd rfl (Or.inl rfl)) (fun _ _ _ _ _ => pts_one (PW.pt (pw_or (pt_cmpR (op_inK (K := K) rfl) (pv 7) (pv 3) (by rfl)) (pw_or1 (pt_cmpR (op_inK (K := K) rfl) (pv 7) (pv 5) (by rfl)))))) (fun _ _ _ _ _ => (pv 7)))))))) (pss_one (ps_ret (pv 3))))), ?_⟩
  tm_at "s"
  refine ⟨by tm_at "sz", fun fa nfa => ?_⟩
  tm_at "s"
  tm_at "rg"
  refine for_rng (n := n) (fun i σ H2 => ∃ (fa : Addr) (fs : List Int) (x4 x5 : Option V), σ = [some (.ref f), some (.int box), some (.bl both), some (.ref fa), x4, x5, none, none] ∧ Same H H2 ∧ H fa = none ∧ H2 fa = some (.lst (fs.map V.int)) ∧ (∀ k ∈ fs, 0 ≤ k ∧ k < n) ∧ box ∈ fs)
    ⟨fa, [box], none, none, rfl, same_new nfa, nfa, upd_same, fun k hk => by
      have e : k = box := by simpa using hk
      subst e
      exact ⟨b0, b1⟩, List.mem_singleton.mpr rfl⟩ ?_ ?_
  · rintro i σ H2 hi ⟨fa, fs, x4, x5, rfl, e2, n2, h2, hf1, hf2⟩
    have F2 := hF.ts (Same.ts e2)
    tm_at "s"
    -- the first list
    refine ⟨⟨_, SqT.of F2.all⟩, fun D nD => ?_⟩
    refine lc_tup (K := K) (a := pa) (xs := tab m fun k => .ref (ad k)) (fun i H3 => Same H2 H3 ∧ ∃ ms : List Int, H3 D = some (.lst (ms.map V.int)) ∧ ms.length ≤ i) ⟨same_new nD, [], upd_same, Nat.le_refl _⟩ ?_ ?_ ?_
    · rintro i H3 hi ⟨e3, _⟩
      exact SqT.of (e3 _ _ F2.all)
    · rintro i x H3 hx ⟨e3, ms, h3, hl⟩
      obtain ⟨him, rfl⟩ := tab_some hx
      have F3 := F2.ts (Same.ts e3)
      refine ⟨rfl, ?_⟩
      tm_at "s"
      refine st_in (e3 _ _ h2) ?_
      tm_at "s"
      refine ite_dec (fun c => ?_) (fun c => ?_)
      · tm_at "s"
        refine ⟨_, h3, small_lt (by rw [List.length_map]; omega), Same.mut e3 nD, ms ++ [(Pi i).other], ?_, by rw [List.length_append]; exact Nat.succ_le_succ hl⟩
        rw [upd_same, List.map_append]
        rfl
      · exact ⟨e3, ms, h3, by omega⟩
    rintro H3 ⟨e3, ms, h3, hl⟩
    rw [tab_len] at hl
    have F3 := F2.ts (Same.ts e3)
    tm_at "s"
    -- the second list
    refine ⟨⟨_, SqT.of F3.all⟩, fun D2 nD2 => ?_⟩
    refine lc_tup (K := K) (a := pa) (xs := tab m fun k => .ref (ad k)) (fun i H4 => Same H3 H4 ∧ ∃ ms : List Int, H4 D2 = some (.lst (ms.map V.int)) ∧ ms.length ≤ i) ⟨same_new nD2, [], upd_same, Nat.le_refl _⟩ ?_ ?_ ?_
    · rintro i H4 hi ⟨e4, _⟩
      exact SqT.of (e4 _ _ F3.all)
    · rintro i x H4 hx ⟨e4, ms, h4, hl⟩
      obtain ⟨him, rfl⟩ := tab_some hx
      have F4 := F3.ts (Same.ts e4)
      refine ⟨rfl, ?_⟩
      tm_at "s"
      refine ite2 (fun c => ?_) (fun c => ?_)
      · tm_at "s"
        refine st_in (e4 _ _ (e3 _ _ h2)) ?_
        tm_at "s"
        refine ite_dec (fun c => ?_) (fun c => ?_)
        · tm_at "s"
          refine ⟨_, h4, small_lt (by rw [List.length_map]; omega), Same.mut e4 nD2, ms ++ [(Pi i).one], ?_, by rw [List.length_append]; exact Nat.succ_le_succ hl⟩
          rw [upd_same, List.map_append]
          rfl
        · exact ⟨e4, ms, h4, by omega⟩
      · exact ⟨e4, ms, h4, by omega⟩
    rintro H4 ⟨e4, ms2, h4, hl2⟩
    rw [tab_len] at hl2
    refine ⟨D, D2, _, _, rfl, rfl, e4 _ _ h3, h4, small_ok (by rw [List.length_map, List.length_map]; omega), fun D3 nD3 => ?_⟩
    have e5 := same_new (o := .lst (ms.map V.int ++ ms2.map V.int)) nD3
    have h5 : upd H4 D3 (.lst (ms.map V.int ++ ms2.map V.int)) D3 = some (.lst ((ms ++ ms2).map V.int)) := by rw [upd_same, List.map_append]
    generalize upd H4 D3 (.lst (ms.map V.int ++ ms2.map V.int)) = H5 at e5 h5 ⊢
    have e25 : Same H2 H5 := Same.trans e3 (Same.trans e4 e5)
    have F5 := F2.ts (Same.ts e25)
    have h25 := e25 _ _ h2
    tm_at "s"
    tm_at "rg"
    refine fun D4 nD4 => ?_
    refine comp_rng (n := n) (fun i H6 => Same H5 H6 ∧ H6 D4 = some (.lst ((fl i (fun k => decide ((k : Int) ∈ fs) || decide ((k : Int) ∈ ms ++ ms2)) fun k => (k : Int)).map V.int))) ⟨same_new nD4, upd_same⟩ ?_ ?_
    · rintro i H6 hi ⟨e6, h6⟩
      have hz : ((fl i (fun k => decide ((k : Int) ∈ fs) || decide ((k : Int) ∈ ms ++ ms2)) fun k => (k : Int)).map V.int).length < sizeLine := small_lt (by rw [List.length_map]; have := fl_len (m := i) (pr := fun k => decide ((k : Int) ∈ fs) || decide ((k : Int) ∈ ms ++ ms2)) (g := fun k => (k : Int)); omega)
      refine ⟨rfl, ?_⟩
      tm_at "s"
      refine st_in (e6 _ _ h25) ?_
      tm_at "s"
      refine ite_dec (fun c => ?_) (fun c => ?_)
      · tm_at "s"
        refine ⟨_, h6, hz, Same.mut e6 nD4, ?_⟩
        rw [upd_same, fl_yes (by simp [c]), List.map_append]
        rfl
      · tm_at "s"
        refine st_in (e6 _ _ h5) ?_
        tm_at "s"
        refine ite_dec (fun c2 => ?_) (fun c2 => ?_)
        · tm_at "s"
          refine ⟨_, h6, hz, Same.mut e6 nD4, ?_⟩
          rw [upd_same, fl_yes (by rw [decide_eq_true c2, Bool.or_true]), List.map_append]
          rfl
        · refine ⟨e6, ?_⟩
          rw [fl_no (by rw [decide_eq_false c, decide_eq_false c2]; rfl)]
          exact h6
    rintro H6 ⟨e6, h6⟩
    have e26 := Same.trans e25 e6
    refine ⟨D4, _, _, _, rfl, Same.trans e2 e26, Same.free (Same.trans e2 e25) nD4, h6, fun k hk => ?_, ?_⟩
    · obtain ⟨j, j1, _, rfl⟩ := fl_mem hk
      omega
    · obtain ⟨b, rfl⟩ := Int.eq_ofNat_of_zero_le b0
      exact fl_in (g := fun k : Nat => (k : Int)) (k := b) (by omega) (by simp [hf2])
  · rintro σ H2 ⟨fa, fs, x4, x5, rfl, e2, n2, h2, hf1, hf2⟩
    tm_at "s"
    exact q fa fs H2 e2 n2 h2 hf1 hf2
end
end Rf
namespace Rf
open PySem PySem.Spec L2
local macro_rules | `(tactic| tm_at "hp") => `(tactic| (first | assumption | exact FlowAt.top (by assumption) | exact FlowAt.all (by assumption) | exact FlowAt.pipe (by assumption) _ (by assumption) | exact upd_same | (refine keep_new (by assumption) ?_; tm_at "hp")))
local macro_rules | `(tactic| tm_at "sq") => `(tactic| (first | exact .inl (by assumption) | exact .inr (by assumption) | exact .inr (SqT.of (by tm_at "hp")) | exact .inl (SqL.of (by tm_at "hp"))))
local macro_rules | `(tactic| tm_at "at") => `(tactic| (first | rfl | exact itab_at (by assumption) | exact tab_at (by assumption) | (refine itab_atI ?_ ?_ <;> assumption)))
local macro_rules | `(tactic| tm_at "ix") => `(tactic| (refine' ⟨_, _, _, _, rfl, rfl, ?hs, ?ha, ?_⟩; (case hs => tm_at "sq"); (case ha => tm_at "at")))
local macro_rules | `(tactic| tm_at "len") => `(tactic| (refine' ⟨_, _, rfl, ?hs, ?_⟩; (case hs => tm_at "sq"); (first | rw [itab_len] | rw [tab_len] | rw [List.length_map] | skip)))
local macro_rules | `(tactic| tm_at "rg") => `(tactic| (refine ⟨rg_lo, rg_hi (by omega), ?_⟩))
local macro_rules | `(tactic| tm_at "rgi") => `(tactic| (refine ⟨rgi_lo (by omega), rgi_hi (by omega), ?_⟩))
local macro_rules | `(tactic| tm_at "ut") => `(tactic| (refine' ⟨_, _, rfl, ?hs, ?hl, ?_⟩; (case hs => exact SqT.of (by tm_at "hp")); (case hl => rfl)))
local macro_rules | `(tactic| tm_at "s") => `(tactic| repeat (first | refine ⟨_, rfl, ?_⟩ | refine ⟨_, _, rfl, rfl, ?_⟩ | tm_at "ix" | tm_at "len" | tm_at "ut" | refine ⟨rfl, ?_⟩ | refine ⟨_, _, rfl, ?_⟩ | refine ⟨_, _, _, rfl, ?_⟩ | refine Or.inl ⟨_, rfl, ?_⟩ | refine ⟨Or.inl ⟨rfl, _, SqL.of (by tm_at "hp")⟩, ?_⟩))
local macro_rules | `(tactic| tm_at "tl") => `(tactic| (refine' ⟨_, _, rfl, Or.inl ⟨SqL.of ?hs, ?_⟩⟩; (case hs => tm_at "hp")))
local macro_rules | `(tactic| tm_at "set") => `(tactic| (refine' ⟨_, _, _, _, rfl, rfl, ?hs, ?hj, ?_⟩; (case hs => tm_at "hp"); (case hj => (first | rfl | exact tab_ixN (by assumption)))))
local macro_rules | `(tactic| tm_at "sz") => `(tactic| (first | exact small_ok (Nat.le_of_ble_eq_true rfl) | exact Nat.le_of_ble_eq_true rfl))
local macro_rules | `(tactic| tm_at "acc") => `(tactic| (refine' ⟨_, ?ha, ?hz, ?_⟩; (case ha => tm_at "hp"); (case hz => (first | rw [itab_len] | rw [tab_len] | rw [List.length_map] | skip); exact small_lt (by omega))))
local macro_rules | `(tactic| tm_at "ap") => `(tactic| (refine' ⟨_, _, _, rfl, rfl, ?hs, ?hz, ?_⟩; (case hs => tm_at "hp")))
local macro_rules | `(tactic| tm_at "sm") => `(tactic| (first | assumption | exact Same.refl _ | (refine Same.new ?_ (by assumption); tm_at "sm") | (refine Same.mut ?_ (by assumption); tm_at "sm")))
section
variable {P : Program} {w : World} {K : PySem.W.Frag} {mg : Str → Option Value} {base : Heap}

/-- the dict of shares -/
def ShAt (H : Hp) (d : Addr) (c : Int → Int) (n L i : Nat) : Prop := ∃ kvs : List (Key × V), H d = some (.dK kvs) ∧ kvs.length ≤ L ∧ (∀ k : Nat, k < i → (valV kvs (.inl (k : Int))).isSome = true) ∧
  ∀ (k : Int) (v : V), valV kvs (.inl k) = some v → ∃ (p : Addr) (N D : Nat), v = .ref p ∧ H p = some (.tup [.int N, .int D]) ∧ Sh c k N D
theorem ShAt.same {H H' : Hp} {d : Addr} {c : Int → Int} {n L i : Nat} (h : ShAt H d c n L i) (e : Same H H') : ShAt H' d c n L i := by
  obtain ⟨kvs, h1, h2, h3, h4⟩ := h
  refine ⟨kvs, e _ _ h1, h2, h3, fun k v hv => ?_⟩
  obtain ⟨p, N, D, e1, e2, e3⟩ := h4 k v hv
  exact ⟨p, N, D, e1, e _ _ e2, e3⟩
/-- a share more -/
theorem ShAt.put {H : Hp} {d p : Addr} {c : Int → Int} {n L i : Nat} {kvs : List (Key × V)} {k : Int} {N D : Nat} (h : ShAt H d c n L i) (hd : H d = some (.dK kvs)) (hp : H p = some (.tup [.int N, .int D])) (hs : Sh c k N D) :
    ShAt (upd H d (.dK (putK kvs (.inl k) (.ref p)))) d c n (L + 1) i := by
  obtain ⟨kvs', h1, h2, h3, h4⟩ := h
  rw [hd] at h1
  cases h1
  refine ⟨_, upd_same, Nat.le_trans (putK_len ..) (by omega), fun j hj => ?_, fun j v hv => ?_⟩
  · rw [valV_put]
    split
    · rfl
    · exact h3 j hj
  · rw [valV_put] at hv
    split at hv
    · rename_i e
      cases hv
      cases e
      exact ⟨p, N, D, rfl, keep_ne (ne_of hp hd (by intro z; cases z)) hp, hs⟩
    · obtain ⟨q, N', D', e1, e2, e3⟩ := h4 j v hv
      exact ⟨q, N', D', e1, keep_ne (ne_of e2 hd (by intro z; cases z)) e2, e3⟩
theorem ShAt.le {H : Hp} {d : Addr} {c : Int → Int} {n L L' i : Nat} (h : ShAt H d c n L i) (z : L ≤ L') : ShAt H d c n L' i := by
  obtain ⟨kvs, h1, h2, h3, h4⟩ := h
  exact ⟨kvs, h1, by omega, h3, h4⟩
theorem ok_round (D : Df K mg "_law_round" s_round p_round) (T : Tx mg) (C_gcd : Ca P w K mg base CX0 1 "_law_gcd" p_gcd spGcd) (C_ratio : Ca P w K mg base CX0 2 "_law_ratio" p_ratio spRatio) (C_joined : Ca P w K mg base CX0 1 "_law_joined" p_joined spJoined) : Ca P w K mg base CX0 3 "_law_round" p_round spRound := by
  obtain ⟨f_gcd, fd_gcd, G_gcd, m_gcd, k_gcd, b_gcd⟩ := C_gcd
  obtain ⟨f_ratio, fd_ratio, G_ratio, m_ratio, k_ratio, b_ratio⟩ := C_ratio
  obtain ⟨f_joined, fd_joined, G_joined, m_joined, k_joined, b_joined⟩ := C_joined
  obtain ⟨f0, fd0, F0, gf0, bf0⟩ := D
  refine ⟨f0, fd0, ?_, gf0, F0.kp, bf0⟩
  refine F0.ok sc_round (fun vs H Q E h => ?_) (fun cdv A outer s0 H vs Q E hr h => ?_)
  · obtain ⟨f, n, m, Pi, c, pa, ad, rfl, _⟩ := h
    rfl
  obtain ⟨f, n, m, Pi, c, pa, ad, rfl, hF, hO, ⟨hc, hbal⟩, q⟩ := h
  have hn5 := hO.n5
  have hm6 := hO.m6
  refine ⟨_, (pss_cons (ps_set (i := 1) sc_round.nd rfl (.inl rfl) pe_dnewK) (pss_cons (ps_for PassesOwn.never rfl (pi_range1 (by rfl) T.z_range (pa_cons (pe_ix (ix_ltK (K := K) rfl) (pv 0) pe_int (fun _ _ => rfl)) pa_nil)) (pg_name (i := 2) sc_round.nd rfl (.inl rfl)) (pss_one (ps_if (pt_cmp (pc_dnotin (hu_of hr) (pv 2) (pv 1))) (pss_cons (ps_dput (hu_of hr) (pv 1) (pv 2) (pe_tup (pa_cons pe_int (pa_cons pe_int pa_nil))) rfl) (pss_one (ps_for PassesOwn.never rfl (pi_range1 (by rfl) T.z_range (pa_cons (pe_ix (ix_ltK (K := K) rfl) (pv 0) pe_int (fun _ _ => rfl)) pa_nil)) (pg_name (i := 3) sc_round.nd rfl (.inl rfl)) (pss_one (ps_for PassesOwn.never rfl (pi_tupK (K := K) rfl (pe_ix (ix_ltK (K := K) rfl) (pv 0) pe_int (fun _ _ => rfl))) (pg_tupK (K := K) rfl (by rfl) (pgs_cons (pg_name (i := 4) sc_round.nd rfl (.inl rfl)) (pgs_cons (pg_name (i := 5) sc_round.nd rfl (.inl rfl)) (pgs_cons (pg_name (i := 6) sc_round.nd rfl (.inl rfl)) (pgs_cons (pg_name (i := 7) sc_round.nd rfl (.inl rfl)) (pgs_cons (pg_name (i := 8) sc_round.nd rfl (.inl rfl)) pgs_nil)))))) (pss_ct (ps_if (PW.pt (pw_and (pt_cmp (pc_din (hu_of hr) (pv 4) (pv 1))) (pw_and1 (pt_cmp (pc_dnotin (hu_of hr) (pv 5) (pv 1)))))) (pss_one (ps_dput (hu_of hr) (pv 1) (pv 5) (pe_call G_ratio (hr.mono (by decide)) (by rfl) m_ratio k_ratio b_ratio .nil pass0 (pa_cons (pe_op op_mul (pe_ix (ix_ltK (K := K) rfl) (pe_dget (hu_of hr) (pv 1) (pv 4) (fun _ _ => rfl)) pe_int (fun _ _ => rfl)) (pv 6)) (pa_cons (pe_op op_mul (pe_ix (ix_ltK (K := K) rfl) (pe_dget (hu_of hr) (pv 1) (pv 4) (fun _ _ => rfl)) pe_int (fun _ _ => rfl)) (pv 7)) pa_nil))) rfl)) pss_nil) (pss_one (ps_if (PW.pt (pw_and (pt_cmp (pc_din (hu_of hr) (pv 5) (pv 1))) (pw_and1 (pt_cmp (pc_dnotin (hu_of hr) (pv 4) (pv 1)))))) (pss_one (ps_dput (hu_of hr) (pv 1) (pv 4) (pe_call G_ratio (hr.mono (by decide)) (by rfl) m_ratio k_ratio b_ratio .nil pass0 (pa_cons (pe_op op_mul (pe_ix (ix_ltK (K := K) rfl) (pe_dget (hu_of hr) (pv 1) (pv 5) (fun _ _ => rfl)) pe_int (fun _ _ => rfl)) (pv 7)) (pa_cons (pe_op op_mul (pe_ix (ix_ltK (K := K) rfl) (pe_dget (hu_of hr) (pv 1) (pv 5) (fun _ _ => rfl)) pe_int (fun _ _ => rfl)) (pv 6)) pa_nil))) rfl)) pss_nil)))))))) pss_nil))) (pss_cons (ps_set (i := 9) sc_round.nd rfl (.inl rfl) (pe_lst pa_nil)) (pss_cons (ps_for PassesOwn.never rfl (pi_range1 (by rfl) T.z_range (pa_cons (pe_ix (ix_ltK (K := K) rfl) (pv 0) pe_int (fun _ _ => rfl)) pa_nil)) (pg_name (i := 2) sc_round.nd rfl (.inl rfl)) (pss_cons (ps_par3 (i := 10) (j := 11) (l := 12) (by rfl) sc_round.nd rfl rfl rfl (by decide) (by decide) (by decide) rfl rfl rfl (pa_cons (pe_call G_joined (hr.mono (by decide)) (by rfl) m_joined k_joined b_joined .nil pass0 (pa_cons (pv 0) (pa_cons (pv 2) (pa_cons pe_bl pa_nil)))) (pa_cons pe_int (pa_cons pe_int pa_nil))) (by rfl)) (pss_cons (ps_for PassesOwn.never rfl (pi_listK (K := K) rfl (pv 10)) (pg_name (i := 13) sc_round.nd rfl (.inl rfl)) (pss_one (ps_set (i := 11) sc_round.nd rfl (.inl rfl) (pe_op op_fdivW (pe_op op_mul (pv 11) (pe_ix (ix_ltK (K := K) rfl) (pe_dget (hu_of hr) (pv 1) (pv 13) (fun _ _ => rfl)) pe_int (fun _ _ => rfl))) (pe_call G_gcd (hr.mono (by decide)) (by rfl) m_gcd k_gcd b_gcd .nil pass0 (pa_cons (pv 11) (pa_cons (pe_ix (ix_ltK (K := K) rfl) (pe_dget (hu_of hr) (pv 1) (pv 13) (fun _ _ => rfl)) pe_int (fun _ _ => rfl)) pa_nil))))))) (pss_cons (ps_for PassesOwn.never rfl (pi_listK (K := K) rfl (pv 10)) (pg_name (i := 13) sc_round.nd rfl (.inl rfl)) (pss_one (ps_set (i := 12) sc_round.nd rfl (.inl rfl) (pe_call G_gcd (hr.mono (by decide)) (by rfl) m_gcd k_gcd b_gcd .nil pass0 (pa_cons (pv 12) (pa_cons (pe_op op_fdivW (pe_op op_mul (pv 11) (pe_ix (ix_ltK (K := K) rfl) (pe_dget (hu_of hr) (pv 1) (pv 13) (fun _ _ => rfl)) pe_int (fun _ _ => rfl))) (pe_ix (ix_ltK (K := K) rfl) (pe_dget (hu_of hr) (pv 1) (pv 13) (fun _ _ => rfl)) pe_int (fun _ _ => rfl))) pa_nil)))))) (pss_one (ps_expr (pe_bm PySem.F.plainAttrs_list PySem.F.slot_list_append PySem.F.type_list_append mt_append (pv 9) (pa_cons (pe_op op_fdivW (pe_op op_fdivW (pe_op op_mul (pv 11) (pe_ix (ix_ltK (K := K) rfl) (pe_dget (hu_of hr) (pv 1) (pv 2) (fun _ _ => rfl)) pe_int (fun _ _ => rfl))) (pe_ix (ix_ltK (K := K) rfl) (pe_dget (hu_of hr) (pv 1) (pv 2) (fun _ _ => rfl)) pe_int (fun _ _ => rfl))) (pv 12)) pa_nil)))))))) (pss_one (ps_ret (pv 9))))))), ?_⟩
  refine fun d nd => ?_
  have s1 := same_new (o := .dK []) nd
  have S1 : ShAt (upd H d (.dK [])) d c n 0 0 := ⟨[], upd_same, Nat.le_refl _, fun k hk => absurd hk (Nat.not_lt_zero k), fun k v hv => by cases hv⟩
  generalize upd H d (.dK []) = H1 at s1 S1 ⊢
  have F1 := hF.ts (Same.ts s1)
  tm_at "s"
  tm_at "rg"
  refine for_rng (n := n) (fun i σ H2 => ∃ (x2 x3 x4 x5 x6 x7 x8 : Option V), σ = [some (.ref f), some (.ref d), x2, x3, x4, x5, x6, x7, x8, none, none, none, none, none] ∧ Same H H2 ∧ ShAt H2 d c n (61 * i) i)
    ⟨none, none, none, none, none, none, none, rfl, s1, S1⟩ ?_ ?_
  · rintro i σ H2 hi ⟨x2, x3, x4, x5, x6, x7, x8, rfl, e2, S2⟩
    have F2 := hF.ts (Same.ts e2)
    obtain ⟨kvs, hd2, hl2, hs2, hv2⟩ := id S2
    tm_at "s"
    refine ⟨d, _, rfl, dget_k hd2, ?_⟩
    tm_at "s"
    cases hv : valV kvs (.inl (i : Int)) with
    | some v =>
      refine ⟨_, _, _, _, _, _, _, rfl, e2, kvs, hd2, by omega, fun k hk => ?_, hv2⟩
      by_cases e : k = i
      · subst e
        rw [hv]
        rfl
      · exact hs2 k (by omega)
    | none =>
      refine ⟨by tm_at "sz", fun p np => ?_⟩
      have s3 := same_new (o := .tup [.int 1, .int 1]) np
      tm_at "s"
      refine ⟨d, _, rfl, dput_k (s3 _ _ hd2) (by omega), ?_⟩
      have e3 : Same H (upd (upd H2 p (.tup [.int 1, .int 1])) d (.dK (putK kvs (.inl (i : Int)) (.ref p)))) := Same.mut (Same.trans e2 s3) nd
      have S3 : ShAt (upd (upd H2 p (.tup [.int 1, .int 1])) d (.dK (putK kvs (.inl (i : Int)) (.ref p)))) d c n (61 * i + 1) (i + 1) := by
        obtain ⟨kv3, a1, a2, a3, a4⟩ := (S2.same s3).put (N := 1) (D := 1) (k := (i : Int)) (s3 _ _ hd2) upd_same Sh.one
        refine ⟨kv3, a1, a2, fun k hk => ?_, a4⟩
        by_cases e : k = i
        · subst e
          rw [upd_same] at a1
          cases a1
          rw [valV_put, if_pos rfl]
          rfl
        · exact a3 k (by omega)
      generalize upd (upd H2 p (.tup [.int 1, .int 1])) d (.dK (putK kvs (.inl (i : Int)) (.ref p))) = H3 at e3 S3 ⊢
      clear S2 hd2 hl2 hs2 hv2 F2 e2
      have F3 := hF.ts (Same.ts e3)
      tm_at "s"
      tm_at "rg"
      refine for_rng (n := n) (fun j σ H4 => ∃ (x3 x4 x5 x6 x7 x8 : Option V), σ = [some (.ref f), some (.ref d), some (.int (i : Int)), x3, x4, x5, x6, x7, x8, none, none, none, none, none] ∧ Same H H4 ∧ ShAt H4 d c n (61 * i + 1 + 12 * j) (i + 1))
        ⟨_, _, _, _, _, _, rfl, e3, S3⟩ ?_ ?_
      · rintro j σ H4 hj ⟨x3, x4, x5, x6, x7, x8, rfl, e4, S4⟩
        have F4 := hF.ts (Same.ts e4)
        tm_at "s"
        refine ⟨⟨_, SqT.of F4.all⟩, ?_⟩
        refine for_tup (K := K) (a := pa) (xs := tab m fun k => .ref (ad k)) (fun k σ H5 => ∃ (x4 x5 x6 x7 x8 : Option V), σ = [some (.ref f), some (.ref d), some (.int (i : Int)), some (.int (j : Int)), x4, x5, x6, x7, x8, none, none, none, none, none] ∧ Same H H5 ∧ ShAt H5 d c n (61 * i + 1 + 12 * j + 2 * k) (i + 1))
          ⟨_, _, _, _, _, rfl, e4, S4⟩ ?_ ?_ ?_
        · rintro k σ H5 hk ⟨x4, x5, x6, x7, x8, rfl, e5, S5⟩
          exact SqT.of (e5 _ _ hF.all)
        · rintro k x σ H5 hx ⟨x4, x5, x6, x7, x8, rfl, e5, S5⟩
          obtain ⟨hk, rfl⟩ := tab_some hx
          have F5 := hF.ts (Same.ts e5)
          have ok := hO.pipe k hk
          have bal := hbal k hk
          have g0 := ok.giv0
          have g1 := ok.giv1
          have t0 := ok.eat0
          have t1 := ok.eat1
          tm_at "s"
          refine ⟨fun σ H6 => σ = [some (.ref f), some (.ref d), some (.int (i : Int)), some (.int (j : Int)), some (.int (Pi k).one), some (.int (Pi k).other), some (.int (Pi k).give), some (.int (Pi k).eat), some (.int (Pi k).start), none, none, none, none, none] ∧ Same H H6 ∧ ShAt H6 d c n (61 * i + 1 + 12 * j + 2 * k + 1) (i + 1), ?_, ?_⟩
          · obtain ⟨kv5, hd5, hl5, hs5, hv5⟩ := id S5
            tm_at "s"
            refine ⟨d, _, rfl, dget_k hd5, ?_⟩
            tm_at "s"
            cases hva : valV kv5 (.inl (Pi k).one) with
            | none => exact ⟨rfl, e5, S5.le (by omega)⟩
            | some va =>
              tm_at "s"
              refine ⟨d, _, rfl, dget_k hd5, ?_⟩
              tm_at "s"
              cases hvb : valV kv5 (.inl (Pi k).other) with
              | some vb => exact ⟨rfl, e5, S5.le (by omega)⟩
              | none =>
                obtain ⟨p5, N, D, rfl, hp5, hsh⟩ := hv5 _ _ hva
                obtain ⟨nle, dle⟩ := hsh.le hc
                tm_at "s"
                refine ⟨d, _, rfl, dget_v hd5 hva, ?_⟩
                tm_at "s"
                refine ⟨cmul_ok (by omega) (by omega), ?_⟩
                tm_at "s"
                refine ⟨d, _, rfl, dget_v hd5 hva, ?_⟩
                tm_at "s"
                refine ⟨cmul_ok (by omega) (by omega), ?_⟩
                obtain ⟨N', D', en, ed, hsh'⟩ := hsh.step g0 t0 bal hc
                refine ⟨_, _, rfl, Int.mul_pos (by have := hsh.1; omega) (by omega), Int.mul_pos (by have := hsh.2.1; omega) (by omega), ?_, fun p6 H6 e6 hp6 => ?_⟩
                · calc (D : Int) * (Pi k).eat ≤ 4 * (Pi k).eat := Int.mul_le_mul_of_nonneg_right (by omega) (by omega)
                    _ < 1000000 := by omega
                rw [en, ed] at hp6
                tm_at "s"
                refine ⟨d, _, rfl, dput_k (e6 _ _ hd5) (by omega), ?_⟩
                exact ⟨rfl, Same.mut (Same.trans e5 e6) nd, (S5.same e6).put (e6 _ _ hd5) hp6 hsh'⟩
          · rintro σ H6 ⟨rfl, e6, S6⟩
            obtain ⟨kv5, hd5, hl5, hs5, hv5⟩ := id S6
            tm_at "s"
            refine ⟨d, _, rfl, dget_k hd5, ?_⟩
            tm_at "s"
            cases hva : valV kv5 (.inl (Pi k).other) with
            | none => exact ⟨_, _, _, _, _, rfl, e6, S6.le (by omega)⟩
            | some va =>
              tm_at "s"
              refine ⟨d, _, rfl, dget_k hd5, ?_⟩
              tm_at "s"
              cases hvb : valV kv5 (.inl (Pi k).one) with
              | some vb => exact ⟨_, _, _, _, _, rfl, e6, S6.le (by omega)⟩
              | none =>
                obtain ⟨p5, N, D, rfl, hp5, hsh⟩ := hv5 _ _ hva
                obtain ⟨nle, dle⟩ := hsh.le hc
                tm_at "s"
                refine ⟨d, _, rfl, dget_v hd5 hva, ?_⟩
                tm_at "s"
                refine ⟨cmul_ok (by omega) (by omega), ?_⟩
                tm_at "s"
                refine ⟨d, _, rfl, dget_v hd5 hva, ?_⟩
                tm_at "s"
                refine ⟨cmul_ok (by omega) (by omega), ?_⟩
                obtain ⟨N', D', en, ed, hsh'⟩ := hsh.step t0 g0 bal.symm hc
                refine ⟨_, _, rfl, Int.mul_pos (by have := hsh.1; omega) (by omega), Int.mul_pos (by have := hsh.2.1; omega) (by omega), ?_, fun p6 H7 e7 hp6 => ?_⟩
                · calc (D : Int) * (Pi k).give ≤ 4 * (Pi k).give := Int.mul_le_mul_of_nonneg_right (by omega) (by omega)
                    _ < 1000000 := by omega
                rw [en, ed] at hp6
                tm_at "s"
                refine ⟨d, _, rfl, dput_k (e7 _ _ hd5) (by omega), ?_⟩
                exact ⟨_, _, _, _, _, rfl, Same.mut (Same.trans e6 e7) nd, (S6.same e7).put (e7 _ _ hd5) hp6 hsh'⟩
        · rintro σ H5 ⟨x4, x5, x6, x7, x8, rfl, e5, S5⟩
          rw [tab_len] at S5
          exact ⟨_, _, _, _, _, _, rfl, e5, S5.le (by omega)⟩
      · rintro σ H4 ⟨x3, x4, x5, x6, x7, x8, rfl, e4, S4⟩
        exact ⟨_, _, _, _, _, _, _, rfl, e4, S4.le (by omega)⟩
  rintro σ H2 ⟨x2, x3, x4, x5, x6, x7, x8, rfl, e2, kvs, hd2, hl2, hs2, hv2⟩
  have hall : ∀ k : Int, 0 ≤ k → k < n → ∃ (p : Addr) (N D : Nat), valV kvs (.inl k) = some (.ref p) ∧ H2 p = some (.tup [.int N, .int D]) ∧ Sh c k N D := fun k h0 h1 => by
    obtain ⟨j, rfl⟩ := Int.eq_ofNat_of_zero_le h0
    obtain ⟨v, hv⟩ := Option.isSome_iff_exists.mp (hs2 j (by omega))
    obtain ⟨p, N, D, rfl, e1, e3⟩ := hv2 _ _ hv
    exact ⟨p, N, D, hv, e1, e3⟩
  refine ⟨by tm_at "sz", fun l nl => ?_⟩
  have F2 := hF.ts (Same.ts (Same.trans e2 (same_new (o := .lst []) nl)))
  tm_at "s"
  tm_at "rg"
  refine for_rng (n := n) (fun i σ H3 => ∃ (x2 x10 x11 x12 x13 : Option V) (cs : Nat → Int), σ = [some (.ref f), some (.ref d), x2, x3, x4, x5, x6, x7, x8, some (.ref l), x10, x11, x12, x13] ∧ Same H2 H3 ∧ H3 l = some (.lst (itab i cs)) ∧ ∀ k, k < i → 0 ≤ cs k ∧ cs k ≤ 60)
    ⟨_, _, _, _, _, fun _ => 0, rfl, same_new nl, upd_same, fun k hk => absurd hk (Nat.not_lt_zero k)⟩ ?_ ?_
  · rintro i σ H3 hi ⟨x2, x10, x11, x12, x13, cs, rfl, e3, hl3, hcs⟩
    have F3 := hF.ts (Same.ts (Same.trans e2 e3))
    tm_at "s"
    refine ⟨f, _, true, n, m, Pi, pa, ad, rfl, F3, hO, by omega, by omega, fun l' ks H4 e4 nl' hl' hks hin => ?_⟩
    have e24 := Same.trans e3 e4
    have hd4 := e24 _ _ hd2
    have uni : ∀ {p : Addr} {N D N' D' : Nat}, H2 p = some (.tup [.int N, .int D]) → H4 p = some (.tup [.int N', .int D']) → N = N' ∧ D = D' := fun h1 h2 => by
      rw [e24 _ _ h1] at h2
      injection h2 with h2
      injection h2 with h2
      injection h2 with h2 h3
      injection h3 with h3
      injection h2 with h2
      injection h3 with h3
      omega
    tm_at "s"
    refine ⟨⟨_, SqL.of hl'⟩, ?_⟩
    refine for_list (K := K) (a := l') (xs := ks.map V.int) (fun j σ H5 => ∃ (b : Nat) (x13 : Option V), σ = [some (.ref f), some (.ref d), some (.int (i : Int)), x3, x4, x5, x6, x7, x8, some (.ref l), some (.ref l'), some (.int b), some (.int 0), x13] ∧ H5 = H4 ∧ D12 b ∧
        ∀ (j' : Nat) (k : Int), j' < j → ks[j']? = some k → ∀ (p : Addr) (N D : Nat), valV kvs (.inl k) = some (.ref p) → H4 p = some (.tup [.int N, .int D]) → D ∣ b)
      ⟨1, _, rfl, rfl, .inl rfl, fun j' k hj => absurd hj (Nat.not_lt_zero j')⟩ ?_ ?_ ?_
    · rintro j σ H5 hj ⟨b, x13, rfl, rfl, _⟩
      exact SqL.of hl'
    · rintro j x σ H5 hx ⟨b, x13, rfl, rfl, hb, hdv⟩
      rw [List.getElem?_map] at hx
      cases hk : ks[j]? with
      | none =>
        rw [hk] at hx
        cases hx
      | some k =>
        rw [hk] at hx
        obtain rfl : V.int k = x := Option.some.inj hx
        obtain ⟨k0, k1⟩ := hks k (List.mem_of_getElem? hk)
        obtain ⟨p, N, D, hv, hp, hsh⟩ := hall k k0 k1
        have hp4 := e24 _ _ hp
        obtain ⟨nle, dle⟩ := hsh.le hc
        obtain ⟨b', eb, hb', d1, d2, g1, g4⟩ := d12_lcm hb hsh.2.1 dle
        have hb12 := d12_le hb
        tm_at "s"
        refine ⟨d, _, rfl, dget_v hd4 hv, ?_⟩
        tm_at "s"
        refine ⟨cmul_ok (by omega) (by omega), ?_⟩
        tm_at "s"
        refine ⟨d, _, rfl, dget_v hd4 hv, ?_⟩
        tm_at "s"
        refine ⟨wide_div (b := 100) (by omega) (by omega) (by decide) (by decide), ?_⟩
        refine ⟨b', _, by simp only [eb]; rfl, rfl, hb', fun j' k' hj' hk' p' N' D' hv' hp' => ?_⟩
        by_cases e : j' = j
        · subst e
          rw [hk] at hk'
          cases hk'
          rw [hv] at hv'
          cases hv'
          obtain ⟨_, rfl⟩ := uni hp hp'
          exact d2
        · exact Nat.dvd_trans (hdv j' k' (by omega) hk' p' N' D' hv' hp') d1
    rintro σ H5 ⟨b, x13, rfl, rfl, hb, hdv⟩
    rw [List.length_map] at hdv
    have hb12 := d12_le hb
    tm_at "s"
    refine ⟨⟨_, SqL.of hl'⟩, ?_⟩
    refine for_list (K := K) (a := l') (xs := ks.map V.int) (fun j σ H6 => ∃ (g : Nat) (x13 : Option V), σ = [some (.ref f), some (.ref d), some (.int (i : Int)), x3, x4, x5, x6, x7, x8, some (.ref l), some (.ref l'), some (.int b), some (.int g), x13] ∧ H6 = H5 ∧ g ≤ 48 ∧ (0 < j → 1 ≤ g))
      ⟨0, _, rfl, rfl, by decide, fun z => absurd z (Nat.lt_irrefl 0)⟩ ?_ ?_ ?_
    · rintro j σ H6 hj ⟨g, x13, rfl, rfl, _⟩
      exact SqL.of hl'
    · rintro j x σ H6 hx ⟨g, x13, rfl, rfl, hg, hg1⟩
      rw [List.getElem?_map] at hx
      cases hk : ks[j]? with
      | none =>
        rw [hk] at hx
        cases hx
      | some k =>
        rw [hk] at hx
        obtain rfl : V.int k = x := Option.some.inj hx
        obtain ⟨k0, k1⟩ := hks k (List.mem_of_getElem? hk)
        obtain ⟨p, N, D, hv, hp, hsh⟩ := hall k k0 k1
        have hp4 := e24 _ _ hp
        obtain ⟨nle, dle⟩ := hsh.le hc
        have hjl : j < ks.length := (List.getElem?_eq_some_iff.mp hk).1
        obtain ⟨v, ev, v1, v48⟩ := d12_val hb (hdv j k hjl hk p N D hv hp4) hsh.1 nle hsh.2.1
        have hD1 := hsh.2.1
        tm_at "s"
        refine ⟨d, _, rfl, dget_v hd4 hv, ?_⟩
        tm_at "s"
        refine ⟨cmul_ok (by omega) (by omega), ?_⟩
        tm_at "s"
        refine ⟨d, _, rfl, dget_v hd4 hv, ?_⟩
        tm_at "s"
        refine ⟨wide_div (b := 100) (by omega) (by omega) (by decide) (by decide), ?_⟩
        simp only [ev]
        have gg : Int.gcd (g : Int) (v : Int) = Nat.gcd g v := rfl
        refine ⟨_, _, rfl, Nat.gcd g v, _, rfl, rfl, ?_, fun _ => Nat.gcd_pos_of_pos_right _ v1⟩
        exact Nat.le_trans (Nat.le_of_dvd v1 (Nat.gcd_dvd_right g v)) v48
    rintro σ H6 ⟨g, x13', rfl, rfl, hg, hg1⟩
    rw [List.length_map] at hg1
    obtain ⟨ji, hji⟩ := List.getElem?_of_mem hin
    have hjl : ji < ks.length := (List.getElem?_eq_some_iff.mp hji).1
    have g1 := hg1 (by omega)
    obtain ⟨p, N, D, hv, hp, hsh⟩ := hall i (by omega) (by omega)
    have hp4 := e24 _ _ hp
    obtain ⟨nle, dle⟩ := hsh.le hc
    obtain ⟨v, ev, v1, v48⟩ := d12_val hb (hdv ji i hjl hji p N D hv hp4) hsh.1 nle hsh.2.1
    have hD1 := hsh.2.1
    have hl4 := e4 _ _ hl3
    tm_at "s"
    refine ⟨d, _, rfl, dget_v hd4 hv, ?_⟩
    tm_at "s"
    refine ⟨cmul_ok (by omega) (by omega), ?_⟩
    tm_at "s"
    refine ⟨d, _, rfl, dget_v hd4 hv, ?_⟩
    tm_at "s"
    refine ⟨wide_div (b := 100) (by omega) (by omega) (by decide) (by decide), ?_⟩
    simp only [ev]
    tm_at "s"
    refine ⟨wide_div (b := 100) (by omega) (by omega) (by decide) (by decide), ?_⟩
    refine ⟨l, _, _, rfl, rfl, hl4, small_lt (by rw [itab_len]; omega), _, _, _, _, _, ext cs i ((v : Int) / (g : Int)), rfl, Same.mut e24 nl, ?_, fun k hk => ?_⟩
    · rw [upd_same]
      exact congrArg (fun z => some (HO.lst z)) (tab_ext V.int)
    · by_cases e : k = i
      · subst e
        rw [ext_same]
        have z1 : (0 : Int) ≤ (v : Int) / (g : Int) := Int.ediv_nonneg (by omega) (by omega)
        have z2 : (v : Int) / (g : Int) ≤ v := Int.ediv_le_self _ (by omega)
        omega
      · rw [ext_ne e]
        exact hcs k (by omega)
  · rintro σ H3 ⟨x2, x10, x11, x12, x13, cs, rfl, e3, hl3, hcs⟩
    tm_at "s"
    exact q l cs H3 (Same.trans e2 e3) (Same.free e2 nl) hl3 hcs
end
end Rf
namespace Rf
open PySem PySem.Spec L2
local macro_rules | `(tactic| tm_at "hp") => `(tactic| (first | assumption | exact FlowAt.top (by assumption) | exact FlowAt.all (by assumption) | exact FlowAt.pipe (by assumption) _ (by assumption) | exact upd_same | (refine keep_new (by assumption) ?_; tm_at "hp")))
local macro_rules | `(tactic| tm_at "sq") => `(tactic| (first | exact .inl (by assumption) | exact .inr (by assumption) | exact .inr (SqT.of (by tm_at "hp")) | exact .inl (SqL.of (by tm_at "hp"))))
local macro_rules | `(tactic| tm_at "at") => `(tactic| (first | rfl | exact itab_at (by assumption) | exact tab_at (by assumption) | (refine itab_atI ?_ ?_ <;> assumption)))
local macro_rules | `(tactic| tm_at "ix") => `(tactic| (refine' ⟨_, _, _, _, rfl, rfl, ?hs, ?ha, ?_⟩; (case hs => tm_at "sq"); (case ha => tm_at "at")))
local macro_rules | `(tactic| tm_at "len") => `(tactic| (refine' ⟨_, _, rfl, ?hs, ?_⟩; (case hs => tm_at "sq"); (first | rw [itab_len] | rw [tab_len] | rw [List.length_map] | skip)))
local macro_rules | `(tactic| tm_at "rg") => `(tactic| (refine ⟨rg_lo, rg_hi (by omega), ?_⟩))
local macro_rules | `(tactic| tm_at "rgi") => `(tactic| (refine ⟨rgi_lo (by omega), rgi_hi (by omega), ?_⟩))
local macro_rules | `(tactic| tm_at "ut") => `(tactic| (refine' ⟨_, _, rfl, ?hs, ?hl, ?_⟩; (case hs => exact SqT.of (by tm_at "hp")); (case hl => rfl)))
local macro_rules | `(tactic| tm_at "s") => `(tactic| repeat (first | refine ⟨_, rfl, ?_⟩ | refine ⟨_, _, rfl, rfl, ?_⟩ | tm_at "ix" | tm_at "len" | tm_at "ut" | refine ⟨rfl, ?_⟩ | refine ⟨_, _, rfl, ?_⟩ | refine ⟨_, _, _, rfl, ?_⟩ | refine Or.inl ⟨_, rfl, ?_⟩ | refine ⟨Or.inl ⟨rfl, _, SqL.of (by tm_at "hp")⟩, ?_⟩))
local macro_rules | `(tactic| tm_at "tl") => `(tactic| (refine' ⟨_, _, rfl, Or.inl ⟨SqL.of ?hs, ?_⟩⟩; (case hs => tm_at "hp")))
local macro_rules | `(tactic| tm_at "set") => `(tactic| (refine' ⟨_, _, _, _, rfl, rfl, ?hs, ?hj, ?_⟩; (case hs => tm_at "hp"); (case hj => (first | rfl | exact tab_ixN (by assumption)))))
local macro_rules | `(tactic| tm_at "sz") => `(tactic| (first | exact small_ok (Nat.le_of_ble_eq_true rfl) | exact Nat.le_of_ble_eq_true rfl))
local macro_rules | `(tactic| tm_at "acc") => `(tactic| (refine' ⟨_, ?ha, ?hz, ?_⟩; (case ha => tm_at "hp"); (case hz => (first | rw [itab_len] | rw [tab_len] | rw [List.length_map] | skip); exact small_lt (by omega))))
local macro_rules | `(tactic| tm_at "ap") => `(tactic| (refine' ⟨_, _, _, rfl, rfl, ?hs, ?hz, ?_⟩; (case hs => tm_at "hp")))
local macro_rules | `(tactic| tm_at "sm") => `(tactic| (first | assumption | exact Same.refl _ | (refine Same.new ?_ (by assumption); tm_at "sm") | (refine Same.mut ?_ (by assumption); tm_at "sm")))
section
variable {P : Program} {w : World} {K : PySem.W.Frag} {mg : Str → Option Value} {base : Heap}

theorem ok_do (D : Df K mg "_law_do" s_do p_do) (T : Tx mg) (C_some : Ca P w K mg base CX0 1 "_law_some" p_some spSome) (C_can : Ca P w K mg base CX0 1 "_law_can" p_can spCan) (C_next : Ca P w K mg base CX0 1 "_law_next" p_next spNext) : Ca P w K mg base CX0 2 "_law_do" p_do spDo := by
  obtain ⟨f_some, fd_some, G_some, m_some, k_some, b_some⟩ := C_some
  obtain ⟨f_can, fd_can, G_can, m_can, k_can, b_can⟩ := C_can
  obtain ⟨f_next, fd_next, G_next, m_next, k_next, b_next⟩ := C_next
  obtain ⟨f0, fd0, F0, gf0, bf0⟩ := D
  refine ⟨f0, fd0, ?_, gf0, F0.kp, bf0⟩
  refine F0.ok sc_do (fun vs H Q E h => ?_) (fun cdv A outer s0 H vs Q E hr h => ?_)
  · obtain ⟨f, cl, n, m, Pi, cs, pa, ad, rfl, _⟩ := h
    rfl
  obtain ⟨f, cl, n, m, Pi, cs, pa, ad, rfl, hF, hO, hcl, hcs, q⟩ := h
  have hn5 := hO.n5
  have hm6 := hO.m6
  refine ⟨_, (pss_cons (ps_asg (pe_tup (pa_cons (pe_call G_some (hr.mono (by decide)) (by rfl) m_some k_some b_some .nil pass0 (pa_cons (pv 0) pa_nil)) (pa_cons (pe_op op_rep (pe_lst (pa_cons pe_int pa_nil)) (pe_ix (ix_ltK (K := K) rfl) (pv 0) pe_int (fun _ _ => rfl))) pa_nil))) (pg_tupK (K := K) rfl (by rfl) (pgs_cons (pg_name (i := 2) sc_do.nd rfl (.inr rfl)) (pgs_cons (pg_name (i := 3) sc_do.nd rfl (.inr rfl)) pgs_nil)))) (pss_cons (ps_for PassesOwn.never rfl (pi_range1 (by rfl) T.z_range (pa_cons (pe_op op_add (pe_callB (cr_sumK (K := K) rfl rfl) (by rfl) T.z_sum (by decide +kernel) (pa_cons (pv 1) pa_nil)) pe_int) pa_nil)) (pg_name (i := 4) sc_do.nd rfl (.inl rfl)) (pss_cons (ps_setLc (i := 5) (own := [("_law_box", 6)]) (g := gName 6) (by rfl) sc_do.nd rfl rfl (sw_true rfl rfl rfl (by decide +kernel)) (pi_range1 (by rfl) T.z_range (pa_cons (pe_ix (ix_ltK (K := K) rfl) (pv 0) pe_int (fun _ _ => rfl)) pa_nil)) (blkOk_by (own := [("_law_box", 6)]) (N := n_do) (sc := defScope s_do) (by decide +kernel)) (fun _ _ _ _ _ => pg_name (i := 6) sc_do.nd rfl (Or.inl rfl)) (fun _ _ _ _ _ => pts_one (PW.pt (pw_and (pt_cmpR op_lt (pe_ix (ix_ltK (K := K) rfl) (pv 3) (pv 6) (fun _ _ => rfl)) (pe_ix (ix_ltK (K := K) rfl) (pv 1) (pv 6) (fun _ _ => rfl)) (nomark _)) (pw_and1 (pt_val (pe_call G_can (hr.mono (by decide)) (by rfl) m_can k_can b_can .nil pass0 (pa_cons (pv 0) (pa_cons (pv 2) (pa_cons (pv 6) pa_nil))))))))) (fun _ _ _ _ _ => (pv 6))) (pss_cons (ps_if (pt_cmpR (op_eqK (K := K) rfl hr.units) (pv 5) (pe_lst pa_nil) (nomark _)) (pss_one (ps_ret (pe_tup (pa_cons (pv 3) (pa_cons (pv 2) pa_nil))))) pss_nil) (pss_cons (ps_set (i := 2) sc_do.nd rfl (.inr rfl) (pe_call G_next (hr.mono (by decide)) (by rfl) m_next k_next b_next .nil pass0 (pa_cons (pv 0) (pa_cons (pv 2) (pa_cons (pe_ix (ix_ltK (K := K) rfl) (pv 5) (pe_un un_neg pe_int) (fun _ _ => rfl)) pa_nil))))) (pss_one (ps_asg (pe_op op_add (pe_ix (ix_ltK (K := K) rfl) (pv 3) (pe_ix (ix_ltK (K := K) rfl) (pv 5) (pe_un un_neg pe_int) (fun _ _ => rfl)) (fun _ _ => rfl)) pe_int) (pg_sub (pv 3) (pe_ix (ix_ltK (K := K) rfl) (pv 5) (pe_un un_neg pe_int) (fun _ _ => rfl)) set_list))))))) (pss_one (ps_ret (pe_tup (pa_cons (pv 3) (pa_cons (pv 2) pa_nil))))))), ?_⟩
  tm_at "s"
  refine ⟨_, n, m, Pi, pa, ad, rfl, hF, by omega, fun sa H1 e1 hsa => ?_⟩
  tm_at "s"
  refine ⟨by tm_at "sz", fun z nz => ?_⟩
  have e2 := Same.trans e1 (same_new (o := .lst [.int 0]) nz)
  have F2 := hF.ts (Same.ts e2)
  tm_at "s"
  refine ⟨z, _, _, rfl, rfl, upd_same, by omega, by omega, small_ok (by show 1 * n ≤ _; omega), ?_⟩
  rw [Int.toNat_natCast, rep_itab]
  refine fun dl ndl => ?_
  have hdl0 : H dl = none := Same.free e2 ndl
  refine ⟨by tm_at "sz", fun t nt => ?_⟩
  have e3 := Same.new (o := .tup [.ref sa, .ref dl]) (Same.new (o := .lst (itab n fun _ => 0)) e2 ndl) nt
  have hsa3 := (Same.new (o := .tup [.ref sa, .ref dl]) (Same.new (o := .lst (itab n fun _ => 0)) (same_new (o := .lst [.int 0]) nz) ndl) nt) _ _ hsa
  have hdl3 : upd (upd (upd H1 z (.lst [.int 0])) dl (.lst (itab n fun _ => 0))) t (.tup [.ref sa, .ref dl]) dl = some (.lst (itab n fun _ => 0)) := keep_new nt upd_same
  have ht3 : upd (upd (upd H1 z (.lst [.int 0])) dl (.lst (itab n fun _ => 0))) t (.tup [.ref sa, .ref dl]) t = some (.tup [.ref sa, .ref dl]) := upd_same
  have hcl3 := e3 _ _ hcl
  obtain ⟨sum0, sum1⟩ := sum_tab hcs
  have hcli : ∀ H', Same H H' → SqL K H' cl ((tab n cs).map V.int) := fun H' e => by
    rw [← itab_map]
    exact SqL.of (e _ _ hcl)
  generalize upd (upd (upd H1 z (.lst [.int 0])) dl (.lst (itab n fun _ => 0))) t (.tup [.ref sa, .ref dl]) = H3 at e3 hsa3 hdl3 hcl3 ht3 ⊢
  clear hsa e1 nz ndl nt
  tm_at "s"
  refine ⟨cl, _, rfl, hcli _ e3, ?_⟩
  tm_at "s"
  refine ⟨rgi_lo (by omega), rgi_hi (by omega), ?_⟩
  refine for_rng (n := ((tab n cs).sum + 1).toNat) (fun i σ H4 => ∃ (x4 x5 : Option V) (sa : Addr) (ds ss : Nat → Int), σ = [some (.ref f), some (.ref cl), some (.ref sa), some (.ref dl), x4, x5, none] ∧ Same H H4 ∧ H4 dl = some (.lst (itab n ds)) ∧ H4 sa = some (.tup (itab m ss)))
    ⟨none, none, sa, fun _ => 0, _, rfl, e3, hdl3, hsa3⟩ ?_ ?_
  · clear hsa3 hdl3 hcl3 ht3 e3 sa
    rintro i σ H4 hi ⟨x4, x5, sa, ds, ss, rfl, e4, hd4, hs4⟩
    have F4 := hF.ts (Same.ts e4)
    have hc4 := e4 _ _ hcl
    tm_at "s"
    tm_at "rg"
    refine fun D nD => ?_
    have Ddl : dl ≠ D := ne_of_none hd4 nD
    refine comp_rng (n := n) (fun i H5 => Same H4 H5 ∧ ∃ ks : List Int, H5 D = some (.lst (ks.map V.int)) ∧ ks.length ≤ i ∧ ∀ k ∈ ks, 0 ≤ k ∧ k < n) ⟨same_new nD, [], upd_same, Nat.le_refl _, fun k hk => by cases hk⟩ ?_ ?_
    · rintro i H5 hi ⟨e5, ks, h5, hl, hks⟩
      have hc5 := e5 _ _ hc4
      have hd5 := e5 _ _ hd4
      refine ⟨rfl, ?_⟩
      tm_at "s"
      refine ite_dec (fun c1 => ?_) (fun c1 => ?_)
      · tm_at "s"
        refine ⟨_, _, _, n, m, Pi, ss, pa, ad, rfl, F4.ts (Same.ts e5), e5 _ _ hs4, by omega, fun H6 e6 => ?_⟩
        tm_at "s"
        cases canM m Pi ss (i : Int) with
        | true =>
          tm_at "s"
          refine ⟨_, e6 _ _ h5, small_lt (by rw [List.length_map]; omega), Same.mut (Same.trans e5 e6) nD, ks ++ [(i : Int)], ?_, by rw [List.length_append]; exact Nat.succ_le_succ hl, fun k hk => ?_⟩
          · rw [upd_same, List.map_append]
            rfl
          · rcases List.mem_append.mp hk with hk | hk
            · exact hks k hk
            · have ek : k = (i : Int) := by simpa using hk
              omega
        | false => exact ⟨Same.trans e5 e6, ks, e6 _ _ h5, by omega, hks⟩
      · exact ⟨e5, ks, h5, by omega, hks⟩
    rintro H5 ⟨e5, ks, h5, hl, hks⟩
    tm_at "s"
    refine ⟨by tm_at "sz", fun p np => ?_⟩
    have s6 := same_new (o := .lst []) np
    refine st_eqL (ls := []) (keep_new np h5) upd_same ?_
    have e6 := Same.trans (Same.trans e4 e5) s6
    have h6 := s6 _ _ h5
    have hd6 := s6 _ _ (e5 _ _ hd4)
    have hs6 := s6 _ _ (e5 _ _ hs4)
    generalize upd H5 p (.lst []) = H6 at s6 e6 h6 hd6 hs6 ⊢
    have F6 := hF.ts (Same.ts e6)
    tm_at "s"
    refine ite_dec (fun c => ?_) (fun c => ?_)
    · tm_at "s"
      refine ⟨by tm_at "sz", fun p np => ?_⟩
      exact q p dl sa ds ss _ (Same.new e6 np) upd_same (keep_new np hd6) (keep_new np hs6)
    · obtain ⟨v, hv, hlast⟩ := last_int c
      obtain ⟨v0, v1⟩ := hks v hv
      tm_at "s"
      refine ⟨_, _, _, _, rfl, rfl, .inl (SqL.of h6), hlast, ?_⟩
      tm_at "s"
      refine ⟨_, _, _, n, m, Pi, ss, pa, ad, rfl, F6, hs6, by omega, fun sa' H7 e7 hs7 => ?_⟩
      have h7 := e7 _ _ h6
      have hd7 := e7 _ _ hd6
      tm_at "s"
      refine ⟨_, _, _, _, rfl, rfl, .inl (SqL.of h7), hlast, ?_⟩
      tm_at "s"
      refine ⟨_, _, _, _, rfl, rfl, .inl (SqL.of h7), hlast, ?_⟩
      refine ⟨_, _, _, _, rfl, rfl, hd7, itab_ixI v0 v1, _, _, sa', fun j => if j = v.toNat then ds v.toNat + 1 else ds j, nextM Pi ss v, rfl, Same.mut (Same.trans e6 e7) hdl0, ?_, keep_ne (ne_of hs7 hd7 (by intro z; cases z)) hs7⟩
      rw [upd_same]
      exact congrArg (fun z => some (HO.lst z)) itab_set
  · rintro σ H4 ⟨x4, x5, sa, ds, ss, rfl, e4, hd4, hs4⟩
    tm_at "s"
    refine ⟨by tm_at "sz", fun p np => ?_⟩
    exact q p dl sa ds ss _ (Same.new e4 np) upd_same (keep_new np hd4) (keep_new np hs4)
end
end Rf
namespace Rf
open PySem PySem.Spec L2
local macro_rules | `(tactic| tm_at "hp") => `(tactic| (first | assumption | exact FlowAt.top (by assumption) | exact FlowAt.all (by assumption) | exact FlowAt.pipe (by assumption) _ (by assumption) | exact upd_same | (refine keep_new (by assumption) ?_; tm_at "hp")))
local macro_rules | `(tactic| tm_at "sq") => `(tactic| (first | exact .inl (by assumption) | exact .inr (by assumption) | exact .inr (SqT.of (by tm_at "hp")) | exact .inl (SqL.of (by tm_at "hp"))))
local macro_rules | `(tactic| tm_at "at") => `(tactic| (first | rfl | exact itab_at (by assumption) | exact tab_at (by assumption) | (refine itab_atI ?_ ?_ <;> assumption)))
local macro_rules | `(tactic| tm_at "ix") => `(tactic| (refine' ⟨_, _, _, _, rfl, rfl, ?hs, ?ha, ?_⟩; (case hs => tm_at "sq"); (case ha => tm_at "at")))
local macro_rules | `(tactic| tm_at "len") => `(tactic| (refine' ⟨_, _, rfl, ?hs, ?_⟩; (case hs => tm_at "sq"); (first | rw [itab_len] | rw [tab_len] | rw [List.length_map] | skip)))
local macro_rules | `(tactic| tm_at "rg") => `(tactic| (refine ⟨rg_lo, rg_hi (by omega), ?_⟩))
local macro_rules | `(tactic| tm_at "rgi") => `(tactic| (refine ⟨rgi_lo (by omega), rgi_hi (by omega), ?_⟩))
local macro_rules | `(tactic| tm_at "ut") => `(tactic| (refine' ⟨_, _, rfl, ?hs, ?hl, ?_⟩; (case hs => exact SqT.of (by tm_at "hp")); (case hl => rfl)))
local macro_rules | `(tactic| tm_at "s") => `(tactic| repeat (first | refine ⟨_, rfl, ?_⟩ | refine ⟨_, _, rfl, rfl, ?_⟩ | tm_at "ix" | tm_at "len" | tm_at "ut" | refine ⟨rfl, ?_⟩ | refine ⟨_, _, rfl, ?_⟩ | refine ⟨_, _, _, rfl, ?_⟩ | refine Or.inl ⟨_, rfl, ?_⟩ | refine ⟨Or.inl ⟨rfl, _, SqL.of (by tm_at "hp")⟩, ?_⟩))
local macro_rules | `(tactic| tm_at "tl") => `(tactic| (refine' ⟨_, _, rfl, Or.inl ⟨SqL.of ?hs, ?_⟩⟩; (case hs => tm_at "hp")))
local macro_rules | `(tactic| tm_at "set") => `(tactic| (refine' ⟨_, _, _, _, rfl, rfl, ?hs, ?hj, ?_⟩; (case hs => tm_at "hp"); (case hj => (first | rfl | exact tab_ixN (by assumption)))))
local macro_rules | `(tactic| tm_at "sz") => `(tactic| (first | exact small_ok (Nat.le_of_ble_eq_true rfl) | exact Nat.le_of_ble_eq_true rfl))
local macro_rules | `(tactic| tm_at "acc") => `(tactic| (refine' ⟨_, ?ha, ?hz, ?_⟩; (case ha => tm_at "hp"); (case hz => (first | rw [itab_len] | rw [tab_len] | rw [List.length_map] | skip); exact small_lt (by omega))))
local macro_rules | `(tactic| tm_at "ap") => `(tactic| (refine' ⟨_, _, _, rfl, rfl, ?hs, ?hz, ?_⟩; (case hs => tm_at "hp")))
local macro_rules | `(tactic| tm_at "sm") => `(tactic| (first | assumption | exact Same.refl _ | (refine Same.new ?_ (by assumption); tm_at "sm") | (refine Same.mut ?_ (by assumption); tm_at "sm")))
section
variable {P : Program} {w : World} {K : PySem.W.Frag} {mg : Str → Option Value} {base : Heap}

theorem ok_live (D : Df K mg "_law_live" s_live p_live) (T : Tx mg) (C_flow : Ca P w K mg base CX0 3 "_law_flow" p_flow (spFlow K)) (C_round : Ca P w K mg base CX0 3 "_law_round" p_round spRound) (C_do : Ca P w K mg base CX0 2 "_law_do" p_do spDo) (C_pick : Ca P w K mg base CX0 2 "_law_pick" p_pick (spPick K)) (C_some : Ca P w K mg base CX0 1 "_law_some" p_some spSome) (C_with : Ca P w K mg base CX0 1 "_law_with" p_with spWith) : Ca P w K mg base CX0 4 "_law_live" p_live (spLive K) := by
  obtain ⟨f_flow, fd_flow, G_flow, m_flow, k_flow, b_flow⟩ := C_flow
  obtain ⟨f_round, fd_round, G_round, m_round, k_round, b_round⟩ := C_round
  obtain ⟨f_do, fd_do, G_do, m_do, k_do, b_do⟩ := C_do
  obtain ⟨f_pick, fd_pick, G_pick, m_pick, k_pick, b_pick⟩ := C_pick
  obtain ⟨f_some, fd_some, G_some, m_some, k_some, b_some⟩ := C_some
  obtain ⟨f_with, fd_with, G_with, m_with, k_with, b_with⟩ := C_with
  obtain ⟨f0, fd0, F0, gf0, bf0⟩ := D
  refine ⟨f0, fd0, ?_, gf0, F0.kp, bf0⟩
  refine F0.ok sc_live (fun vs H Q E h => ?_) (fun cdv A outer s0 H vs Q E hr h => ?_)
  · obtain ⟨row, sc, rfl, _⟩ := h
    rfl
  obtain ⟨row, sc, rfl, hR, q⟩ := h
  refine ⟨_, (pss_cons (ps_set (i := 3) sc_live.nd rfl (.inr rfl) (pe_call G_flow (hr.mono (by decide)) (by rfl) m_flow k_flow b_flow .nil pass0 (pa_cons (pv 0) (pa_cons (pv 1) (pa_cons (pv 2) pa_nil))))) (pss_cons (ps_set (i := 4) sc_live.nd rfl (.inr rfl) (pe_call G_round (hr.mono (by decide)) (by rfl) m_round k_round b_round .nil pass0 (pa_cons (pv 3) pa_nil))) (pss_cons (ps_for PassesOwn.never rfl (pi_range1 (by rfl) T.z_range (pa_cons pe_int pa_nil)) (pg_name (i := 5) sc_live.nd rfl (.inl rfl)) (pss_cons (ps_asg (pe_call G_do (hr.mono (by decide)) (by rfl) m_do k_do b_do .nil pass0 (pa_cons (pv 3) (pa_cons (pv 4) pa_nil))) (pg_tupK (K := K) rfl (by rfl) (pgs_cons (pg_name (i := 6) sc_live.nd rfl (.inr rfl)) (pgs_cons (pg_name (i := 7) sc_live.nd rfl (.inr rfl)) pgs_nil)))) (pss_cons (ps_setLc (i := 8) (own := [("_law_k", 9)]) (g := gName 9) (by rfl) sc_live.nd rfl rfl (sw_true rfl rfl rfl (by decide +kernel)) (pi_range1 (by rfl) T.z_range (pa_cons (pe_callB (call_lenK (K := K) rfl) (by rfl) T.z_len PySem.boot_len (pa_cons (pv 7) pa_nil)) pa_nil)) (blkOk_by (own := [("_law_k", 9)]) (N := n_live) (sc := defScope s_live) (by decide +kernel)) (fun _ _ _ _ _ => pg_name (i := 9) sc_live.nd rfl (Or.inl rfl)) (fun _ _ _ _ _ => pts_one (PW.pt (pw_and (pt_cmpR op_lt (pe_ix (ix_ltK (K := K) rfl) (pv 6) (pe_ix (ix_ltK (K := K) rfl) (pe_ix (ix_ltK (K := K) rfl) (pe_ix (ix_ltK (K := K) rfl) (pv 3) pe_int (fun _ _ => rfl)) (pv 9) (fun _ _ => rfl)) pe_int (fun _ _ => rfl)) (fun _ _ => rfl)) (pe_ix (ix_ltK (K := K) rfl) (pv 4) (pe_ix (ix_ltK (K := K) rfl) (pe_ix (ix_ltK (K := K) rfl) (pe_ix (ix_ltK (K := K) rfl) (pv 3) pe_int (fun _ _ => rfl)) (pv 9) (fun _ _ => rfl)) pe_int (fun _ _ => rfl)) (fun _ _ => rfl)) (nomark _)) (pw_and1 (pt_cmpR op_lt (pe_ix (ix_ltK (K := K) rfl) (pv 7) (pv 9) (fun _ _ => rfl)) (pe_ix (ix_ltK (K := K) rfl) (pe_ix (ix_ltK (K := K) rfl) (pe_ix (ix_ltK (K := K) rfl) (pv 3) pe_int (fun _ _ => rfl)) (pv 9) (fun _ _ => rfl)) pe_int (fun _ _ => rfl)) (nomark _)))))) (fun _ _ _ _ _ => (pv 9))) (pss_one (ps_if (pt_cmpR (op_neK (K := K) rfl hr.units) (pv 8) (pe_lst pa_nil) (nomark _)) (pss_cons (ps_set (i := 9) sc_live.nd rfl (.inl rfl) (pe_call G_pick (hr.mono (by decide)) (by rfl) m_pick k_pick b_pick .nil pass0 (pa_cons (pv 0) (pa_cons (pv 8) pa_nil)))) (pss_one (ps_set (i := 3) sc_live.nd rfl (.inr rfl) (pe_call G_with (hr.mono (by decide)) (by rfl) m_with k_with b_with .nil pass0 (pa_cons (pv 3) (pa_cons (pe_op (op_catK (K := K) rfl) (pe_op (op_catK (K := K) rfl) (pe_slice (sl_tupK (K := K) rfl) (pe_call G_some (hr.mono (by decide)) (by rfl) m_some k_some b_some .nil pass0 (pa_cons (pv 3) pa_nil)) po_none (po_some (pv 9))) (pe_tup (pa_cons (pe_op op_add (pe_ix (ix_ltK (K := K) rfl) (pe_ix (ix_ltK (K := K) rfl) (pe_ix (ix_ltK (K := K) rfl) (pv 3) pe_int (fun _ _ => rfl)) (pv 9) (fun _ _ => rfl)) pe_int (fun _ _ => rfl)) (pe_ix (ix_ltK (K := K) rfl) (pe_ix (ix_ltK (K := K) rfl) (pe_ix (ix_ltK (K := K) rfl) (pv 3) pe_int (fun _ _ => rfl)) (pv 9) (fun _ _ => rfl)) pe_int (fun _ _ => rfl))) pa_nil))) (pe_slice (sl_tupK (K := K) rfl) (pe_call G_some (hr.mono (by decide)) (by rfl) m_some k_some b_some .nil pass0 (pa_cons (pv 3) pa_nil)) (po_some (pe_op op_add (pv 9) pe_int)) po_none)) pa_nil)))))) pss_nil))))) (pss_cons (ps_if (pt_cmpR (op_neK (K := K) rfl hr.units) (pe_ix (ix_ltK (K := K) rfl) (pe_call G_do (hr.mono (by decide)) (by rfl) m_do k_do b_do .nil pass0 (pa_cons (pv 3) (pa_cons (pv 4) pa_nil))) pe_int (fun _ _ => rfl)) (pv 4) (nomark _)) (pss_one (ps_set (i := 3) sc_live.nd rfl (.inr rfl) (pe_call G_with (hr.mono (by decide)) (by rfl) m_with k_with b_with .nil pass0 (pa_cons (pv 3) (pa_cons (pe_callTy (call_tupleK (K := K) rfl) (by rfl) T.z_tuple (by decide +kernel) (pa_cons (pe_lc (own := [("_law_pipe", 10)]) (g := gName 10) (by rfl) sc_live.nd (pi_tupK (K := K) rfl (pe_ix (ix_ltK (K := K) rfl) (pv 3) pe_int (fun _ _ => rfl))) (blkOk_by (own := [("_law_pipe", 10)]) (N := n_live) (sc := defScope s_live) (by decide +kernel)) (fun _ _ _ _ _ => pg_name (i := 10) sc_live.nd rfl (Or.inl rfl)) (fun _ _ _ _ _ => pts_nil) (fun _ _ _ _ _ => (pe_op op_mul (pe_ix (ix_ltK (K := K) rfl) (pv 10) pe_int (fun _ _ => rfl)) (pe_ix (ix_ltK (K := K) rfl) (pv 4) (pe_ix (ix_ltK (K := K) rfl) (pv 10) pe_int (fun _ _ => rfl)) (fun _ _ => rfl))))) pa_nil)) pa_nil))))) pss_nil) (pss_one (ps_ret (pv 3))))))), ?_⟩
  tm_at "s"
  refine ⟨_, _, rfl, hR, fun f n m Pi c pa ad H1 hO hB k1 R1 hF => ?_⟩
  have hn5 := hO.n5
  have hm6 := hO.m6
  have hO0 : FlowOk n m Pi 1000 := ⟨hO.n1, hO.n5, hO.m6, fun k hk => by
    have o := hO.pipe k hk
    exact ⟨o.one0, o.one1, o.oth0, o.oth1, o.giv0, o.giv1, o.eat0, o.eat1, o.sta0, by have := o.sta1; omega⟩⟩
  tm_at "s"
  refine ⟨_, n, m, Pi, c, pa, ad, rfl, hF, hO0, hB, fun cl cs H2 e2 ncl hcl hcs => ?_⟩
  have R2 := R1.same e2
  have k2 := Kp.same k1 e2
  have F2 := hF.ts (Same.ts e2)
  have clr : cl ≠ row := R1.ne ncl
  tm_at "s"
  refine ⟨rgi_lo (by decide), rgi_hi (by decide), ?_⟩
  refine for_rng (n := 40) (fun i σ H3 => ∃ (x5 x6 x7 x8 x9 : Option V) (f : Addr) (Pi : Nat → Pipe) (pa : Addr) (ad : Nat → Addr), σ = [some (.ref row), some (.int 4), some (.int 4), some (.ref f), some (.ref cl), x5, x6, x7, x8, x9, none] ∧ Kp row H H3 ∧ RowAt K H3 row sc ∧ H3 cl = some (.lst (itab n cs)) ∧ FlowAt H3 f n m Pi pa ad ∧ FlowOk n m Pi (4 + 8 * (i : Int)))
    ⟨none, none, none, none, none, f, Pi, pa, ad, rfl, k2, R2, hcl, F2, by simpa using hO⟩ ?_ ?_
  · clear hO0 hO F2 hF k1 R1 k2 R2 hB e2 hcl ncl
    rintro i σ H3 hi ⟨x5, x6, x7, x8, x9, f, Pi, pa, ad, rfl, k3, R3, hc3, F3, hO⟩
    have hO3 : FlowOk n m Pi 1000 := ⟨hO.n1, hO.n5, hO.m6, fun k hk => by
      have o := hO.pipe k hk
      exact ⟨o.one0, o.one1, o.oth0, o.oth1, o.giv0, o.giv1, o.eat0, o.eat1, o.sta0, by have := o.sta1; omega⟩⟩
    tm_at "s"
    refine ⟨_, _, n, m, Pi, cs, pa, ad, rfl, F3, hO3, hc3, hcs, fun t dl sa ds ss H4 e4 ht4 hd4 hs4 => ?_⟩
    have F4 := F3.ts (Same.ts e4)
    have hc4 := e4 _ _ hc3
    have R4 := R3.same e4
    have k4 := Kp.same k3 e4
    tm_at "s"
    tm_at "rg"
    refine fun D nD => ?_
    refine comp_rng (n := m) (fun i H5 => Same H4 H5 ∧ ∃ ks : List Int, H5 D = some (.lst (ks.map V.int)) ∧ ks.length ≤ i ∧ ∀ k ∈ ks, 0 ≤ k ∧ k < m) ⟨same_new nD, [], upd_same, Nat.le_refl _, fun k hk => by cases hk⟩ ?_ ?_
    · rintro j H5 hj ⟨e5, ks, h5, hl, hks⟩
      have F5 := F4.ts (Same.ts e5)
      have hc5 := e5 _ _ hc4
      have hd5 := e5 _ _ hd4
      have hs5 := e5 _ _ hs4
      have o0 := (hO.pipe j hj).oth0
      have o1 := (hO.pipe j hj).oth1
      refine ⟨rfl, ?_⟩
      tm_at "s"
      refine ite_dec (fun c1 => ?_) (fun c1 => ?_)
      · tm_at "s"
        refine ite_dec (fun c2 => ?_) (fun c2 => ?_)
        · tm_at "s"
          refine ⟨_, h5, small_lt (by rw [List.length_map]; omega), Same.mut e5 nD, ks ++ [(j : Int)], ?_, by rw [List.length_append]; exact Nat.succ_le_succ hl, fun k hk => ?_⟩
          · rw [upd_same, List.map_append]
            rfl
          · rcases List.mem_append.mp hk with hk | hk
            · exact hks k hk
            · have ek : k = (j : Int) := by simpa using hk
              omega
        · exact ⟨e5, ks, h5, by omega, hks⟩
      · exact ⟨e5, ks, h5, by omega, hks⟩
    rintro H5 ⟨e5, ks, h5, hl, hks⟩
    tm_at "s"
    refine ⟨by tm_at "sz", fun p np => ?_⟩
    have s6 := same_new (o := .lst []) np
    refine st_neL (ls := []) (keep_new np h5) upd_same ?_
    have e6 := Same.trans e5 s6
    have h6 := s6 _ _ h5
    generalize upd H5 p (.lst []) = H6 at s6 e6 h6 ⊢
    have F6 := F4.ts (Same.ts e6)
    have hc6 := e6 _ _ hc4
    have R6 := R4.same e6
    have k6 := Kp.same k4 e6
    tm_at "s"
    refine ite_ndec (fun c => ?_) (fun c => ?_)
    · have hlen : 1 ≤ ks.length := by
        cases ks with
        | nil => exact absurd rfl c
        | cons a b => exact Nat.succ_le_succ (Nat.zero_le _)
      tm_at "s"
      refine ⟨_, _, _, _, rfl, R6, h6, ?_, by rw [List.length_map]; exact hlen, by rw [List.length_map]; omega, fun kk v H7 hv k7 R7 => ?_⟩
      · obtain ⟨rx, hx⟩ := R4.lst
        exact (ne_of_none hx nD).symm
      rw [List.getElem?_map] at hv
      cases hkk : ks[kk]? with
      | none =>
        rw [hkk] at hv
        cases hv
      | some kv =>
      rw [hkk] at hv
      obtain rfl : V.int kv = v := Option.some.inj hv
      obtain ⟨kv0, kv1⟩ := hks kv (List.mem_of_getElem? hkk)
      obtain ⟨k, rfl⟩ := Int.eq_ofNat_of_zero_le kv0
      have hk : k < m := by omega
      have F7 := F6.ts (R6.ts k7)
      have hc7 := k7 _ _ clr hc6
      have k7' := Kp.trans k6 k7
      tm_at "s"
      refine ⟨_, n, m, Pi, pa, ad, rfl, F7, by omega, fun s1 H8 e8 h8 => ?_⟩
      have F8 := F7.ts (Same.ts e8)
      tm_at "s"
      refine st_slice h8 fun s2 H9 e9 h9 => ?_
      have F9 := F8.ts (Same.ts e9)
      tm_at "s"
      refine ⟨by tm_at "sz", fun s3 n3 => ?_⟩
      refine st_cat (keep_new n3 h9) upd_same ?_ fun s4 H10 e10 h10 => ?_
      · rw [cut_to (by rw [itab_len]; omega), List.length_take, itab_len]
        show min k m + 1 ≤ 100000
        omega
      have e10' := Same.trans (same_new (o := .tup [.int ((Pi k).start + (Pi k).eat)]) n3) e10
      have F10 := F9.ts (Same.ts e10')
      tm_at "s"
      refine ⟨_, n, m, Pi, pa, ad, rfl, F10, by omega, fun s5 H11 e11 h11 => ?_⟩
      tm_at "s"
      unfold tNoPart
      refine st_slice h11 fun s6 H12 e12 h12 => ?_
      have h12' : H12 s6 = some (.tup (cutV (itab m fun k => (Pi k).start) (some ((k + 1 : Nat) : Int)) none)) := by
        rw [h12]
        rfl
      have e12' := Same.trans e11 e12
      refine st_cat (e12' _ _ h10) h12' ?_ fun s7 H13 e13 h13 => ?_
      · rw [List.length_append, cut_to (by rw [itab_len]; omega), cut_from (by rw [itab_len]; omega), List.length_take, List.length_drop, itab_len]
        show min k m + 1 + _ ≤ 100000
        omega
      rw [cut_put hk] at h13
      have e713 : Same H7 H13 := Same.trans e8 (Same.trans e9 (Same.trans e10' (Same.trans e12' e13)))
      tm_at "s"
      refine ⟨_, _, n, m, Pi, _, pa, ad, rfl, F7.ts (Same.ts e713), h13, by omega, fun f' pa' ad' H14 e14 F14 => ?_⟩
      have e714 := Same.trans e713 e14
      refine ⟨_, _, _, _, _, f', _, pa', ad', rfl, Kp.same k7' e714, R7.same e714, e714 _ _ hc7, F14, hO.n1, hO.n5, hO.m6, fun j hj => ?_⟩
      have o := hO.pipe j hj
      have sta0 := o.sta0
      have sta1 := o.sta1
      have eat0 := o.eat0
      have eat1 := o.eat1
      refine ⟨o.one0, o.one1, o.oth0, o.oth1, o.giv0, o.giv1, o.eat0, o.eat1, ?_, ?_⟩
      · show 0 ≤ (if j = k then (Pi k).start + (Pi k).eat else (Pi j).start)
        split
        · rename_i e
          subst e
          omega
        · omega
      · show (if j = k then (Pi k).start + (Pi k).eat else (Pi j).start) ≤ 4 + 8 * ((i + 1 : Nat) : Int)
        split
        · rename_i e
          subst e
          omega
        · omega
    · refine ⟨_, _, _, _, _, f, Pi, pa, ad, rfl, k6, R6, hc6, F6, hO.n1, hO.n5, hO.m6, fun k hk => ?_⟩
      have o := hO.pipe k hk
      exact ⟨o.one0, o.one1, o.oth0, o.oth1, o.giv0, o.giv1, o.eat0, o.eat1, o.sta0, by have := o.sta1; omega⟩
  clear hO0 hO F2 hF k1 R1 k2 R2 hB e2 hcl ncl
  rintro σ H3 ⟨x5, x6, x7, x8, x9, f, Pi, pa, ad, rfl, k3, R3, hc3, F3, hO⟩
  have hO3 : FlowOk n m Pi 1000 := ⟨hO.n1, hO.n5, hO.m6, fun k hk => by
    have o := hO.pipe k hk
    exact ⟨o.one0, o.one1, o.oth0, o.oth1, o.giv0, o.giv1, o.eat0, o.eat1, o.sta0, by have := o.sta1; omega⟩⟩
  tm_at "s"
  refine ⟨_, _, n, m, Pi, cs, pa, ad, rfl, F3, hO3, hc3, hcs, fun t dl sa ds ss H4 e4 ht4 hd4 hs4 => ?_⟩
  have F4 := F3.ts (Same.ts e4)
  have hc4 := e4 _ _ hc3
  have R4 := R3.same e4
  have k4 := Kp.same k3 e4
  tm_at "s"
  refine st_neL (ks := tab n ds) (ls := tab n cs) (by rw [← itab_map]; exact hd4) (by rw [← itab_map]; exact hc4) ?_
  tm_at "s"
  refine ite_ndec (fun c => ?_) (fun c => ?_)
  · tm_at "s"
    refine ⟨⟨_, SqT.of F4.all⟩, fun D nD => ?_⟩
    refine lc_tup (K := K) (a := pa) (xs := tab m fun k => .ref (ad k)) (fun j H5 => Same H4 H5 ∧ H5 D = some (.lst (itab j fun k => (Pi k).eat * cs (Pi k).other.toNat))) ⟨same_new nD, upd_same⟩ ?_ ?_ ?_
    · rintro j H5 hj ⟨e5, h5⟩
      exact SqT.of (e5 _ _ F4.all)
    · rintro j x H5 hx ⟨e5, h5⟩
      obtain ⟨hj, rfl⟩ := tab_some hx
      have F5 := F4.ts (Same.ts e5)
      have hc5 := e5 _ _ hc4
      have o := hO.pipe j hj
      have o0 := o.oth0
      have o1 := o.oth1
      have t0 := o.eat0
      have t1 := o.eat1
      refine ⟨rfl, ?_⟩
      tm_at "s"
      refine ⟨cmul_ok (by omega) (by omega), ?_⟩
      refine ⟨_, h5, small_lt (by rw [itab_len]; omega), Same.mut e5 nD, ?_⟩
      rw [upd_same, itab_succ]
    rintro H5 ⟨e5, h5⟩
    rw [tab_len] at h5
    refine ⟨_, _, rfl, .inl ⟨SqL.of h5, fun p np => ?_⟩⟩
    have e6 := Same.new (o := .tup (itab m fun k => (Pi k).eat * cs (Pi k).other.toNat)) e5 np
    refine ⟨_, _, n, m, Pi, _, pa, ad, rfl, F4.ts (Same.ts e6), upd_same, by omega, fun f' pa' ad' H7 e7 F7 => ?_⟩
    have e47 := Same.trans e6 e7
    tm_at "s"
    refine q f' n m _ pa' ad' H7 ⟨hO.n1, hO.n5, hO.m6, fun j hj => ?_⟩ (Kp.same k4 e47) (R4.same e47) F7
    have o := hO.pipe j hj
    have o0 := o.oth0
    have o1 := o.oth1
    have t0 := o.eat0
    have t1 := o.eat1
    obtain ⟨c0, c1⟩ := hcs (Pi j).other.toNat (by omega)
    refine ⟨o.one0, o.one1, o.oth0, o.oth1, o.giv0, o.giv1, o.eat0, o.eat1, Int.mul_nonneg (by omega) c0, ?_⟩
    calc (Pi j).eat * cs (Pi j).other.toNat ≤ 8 * cs (Pi j).other.toNat := Int.mul_le_mul_of_nonneg_right (by omega) c0
      _ ≤ 1000 := by omega
  · tm_at "s"
    exact q f n m Pi pa ad H4 hO3 k4 R4 F4
end
end Rf
namespace Rf
open PySem PySem.Spec L2
local macro_rules | `(tactic| tm_at "hp") => `(tactic| (first | assumption | exact FlowAt.top (by assumption) | exact FlowAt.all (by assumption) | exact FlowAt.pipe (by assumption) _ (by assumption) | exact upd_same | (refine keep_new (by assumption) ?_; tm_at "hp")))
local macro_rules | `(tactic| tm_at "sq") => `(tactic| (first | exact .inl (by assumption) | exact .inr (by assumption) | exact .inr (SqT.of (by tm_at "hp")) | exact .inl (SqL.of (by tm_at "hp"))))
local macro_rules | `(tactic| tm_at "at") => `(tactic| (first | rfl | exact itab_at (by assumption) | exact tab_at (by assumption) | (refine itab_atI ?_ ?_ <;> assumption)))
local macro_rules | `(tactic| tm_at "ix") => `(tactic| (refine' ⟨_, _, _, _, rfl, rfl, ?hs, ?ha, ?_⟩; (case hs => tm_at "sq"); (case ha => tm_at "at")))
local macro_rules | `(tactic| tm_at "len") => `(tactic| (refine' ⟨_, _, rfl, ?hs, ?_⟩; (case hs => tm_at "sq"); (first | rw [itab_len] | rw [tab_len] | rw [List.length_map] | skip)))
local macro_rules | `(tactic| tm_at "rg") => `(tactic| (refine ⟨rg_lo, rg_hi (by omega), ?_⟩))
local macro_rules | `(tactic| tm_at "rgi") => `(tactic| (refine ⟨rgi_lo (by omega), rgi_hi (by omega), ?_⟩))
local macro_rules | `(tactic| tm_at "ut") => `(tactic| (refine' ⟨_, _, rfl, ?hs, ?hl, ?_⟩; (case hs => exact SqT.of (by tm_at "hp")); (case hl => rfl)))
local macro_rules | `(tactic| tm_at "s") => `(tactic| repeat (first | refine ⟨_, rfl, ?_⟩ | refine ⟨_, _, rfl, rfl, ?_⟩ | tm_at "ix" | tm_at "len" | tm_at "ut" | refine ⟨rfl, ?_⟩ | refine ⟨_, _, rfl, ?_⟩ | refine ⟨_, _, _, rfl, ?_⟩ | refine Or.inl ⟨_, rfl, ?_⟩ | refine ⟨Or.inl ⟨rfl, _, SqL.of (by tm_at "hp")⟩, ?_⟩))
local macro_rules | `(tactic| tm_at "tl") => `(tactic| (refine' ⟨_, _, rfl, Or.inl ⟨SqL.of ?hs, ?_⟩⟩; (case hs => tm_at "hp")))
local macro_rules | `(tactic| tm_at "set") => `(tactic| (refine' ⟨_, _, _, _, rfl, rfl, ?hs, ?hj, ?_⟩; (case hs => tm_at "hp"); (case hj => (first | rfl | exact tab_ixN (by assumption)))))
local macro_rules | `(tactic| tm_at "sz") => `(tactic| (first | exact small_ok (Nat.le_of_ble_eq_true rfl) | exact Nat.le_of_ble_eq_true rfl))
local macro_rules | `(tactic| tm_at "acc") => `(tactic| (refine' ⟨_, ?ha, ?hz, ?_⟩; (case ha => tm_at "hp"); (case hz => (first | rw [itab_len] | rw [tab_len] | rw [List.length_map] | skip); exact small_lt (by omega))))
local macro_rules | `(tactic| tm_at "ap") => `(tactic| (refine' ⟨_, _, _, rfl, rfl, ?hs, ?hz, ?_⟩; (case hs => tm_at "hp")))
local macro_rules | `(tactic| tm_at "sm") => `(tactic| (first | assumption | exact Same.refl _ | (refine Same.new ?_ (by assumption); tm_at "sm") | (refine Same.mut ?_ (by assumption); tm_at "sm")))
section
variable {P : Program} {w : World} {K : PySem.W.Frag} {mg : Str → Option Value} {base : Heap}

theorem ok_word (D : Df K mg "_law_word" s_word p_word) (T : Tx mg) (C_some : Ca P w K mg base CX0 1 "_law_some" p_some spSome) (C_can : Ca P w K mg base CX0 1 "_law_can" p_can spCan) (C_next : Ca P w K mg base CX0 1 "_law_next" p_next spNext) (C_pick : Ca P w K mg base CX0 2 "_law_pick" p_pick (spPick K)) (C_taken : Ca P w K mg base CX0 1 "_law_taken" p_taken (spTaken K)) : Ca P w K mg base CX0 3 "_law_word" p_word (spWord K) := by
  obtain ⟨f_some, fd_some, G_some, m_some, k_some, b_some⟩ := C_some
  obtain ⟨f_can, fd_can, G_can, m_can, k_can, b_can⟩ := C_can
  obtain ⟨f_next, fd_next, G_next, m_next, k_next, b_next⟩ := C_next
  obtain ⟨f_pick, fd_pick, G_pick, m_pick, k_pick, b_pick⟩ := C_pick
  obtain ⟨f_taken, fd_taken, G_taken, m_taken, k_taken, b_taken⟩ := C_taken
  obtain ⟨f0, fd0, F0, gf0, bf0⟩ := D
  refine ⟨f0, fd0, ?_, gf0, F0.kp, bf0⟩
  refine F0.ok sc_word (fun vs H Q E h => ?_) (fun cdv A outer s0 H vs Q E hr h => ?_)
  · obtain ⟨row, sc, f, n, m, Pi, pa, ad, rfl, _⟩ := h
    rfl
  obtain ⟨row, sc, f, n, m, Pi, pa, ad, rfl, hR, hF, hO, q⟩ := h
  have hn5 := hO.n5
  have hm6 := hO.m6
  refine ⟨_, (pss_cons (ps_asg (pe_tup (pa_cons (pe_call G_some (hr.mono (by decide)) (by rfl) m_some k_some b_some .nil pass0 (pa_cons (pv 1) pa_nil)) (pa_cons (pe_tup pa_nil) pa_nil))) (pg_tupK (K := K) rfl (by rfl) (pgs_cons (pg_name (i := 3) sc_word.nd rfl (.inr rfl)) (pgs_cons (pg_name (i := 4) sc_word.nd rfl (.inl rfl)) pgs_nil)))) (pss_cons (ps_for PassesOwn.never rfl (pi_range1 (by rfl) T.z_range (pa_cons (pe_call G_taken (hr.mono (by decide)) (by rfl) m_taken k_taken b_taken .nil pass0 (pa_cons (pv 0) (pa_cons (pe_op op_add (pv 2) pe_int) pa_nil))) pa_nil)) (pg_name (i := 5) sc_word.nd rfl (.inl rfl)) (pss_cons (ps_setLc (i := 6) (own := [("_law_box", 7)]) (g := gName 7) (by rfl) sc_word.nd rfl rfl (sw_true rfl rfl rfl (by decide +kernel)) (pi_range1 (by rfl) T.z_range (pa_cons (pe_ix (ix_ltK (K := K) rfl) (pv 1) pe_int (fun _ _ => rfl)) pa_nil)) (blkOk_by (own := [("_law_box", 7)]) (N := n_word) (sc := defScope s_word) (by decide +kernel)) (fun _ _ _ _ _ => pg_name (i := 7) sc_word.nd rfl (Or.inl rfl)) (fun _ _ _ _ _ => pts_one (pt_val (pe_call G_can (hr.mono (by decide)) (by rfl) m_can k_can b_can .nil pass0 (pa_cons (pv 1) (pa_cons (pv 3) (pa_cons (pv 7) pa_nil)))))) (fun _ _ _ _ _ => (pv 7))) (pss_one (ps_if (pt_cmpR (op_neK (K := K) rfl hr.units) (pv 6) (pe_lst pa_nil) (nomark _)) (pss_cons (ps_set (i := 4) sc_word.nd rfl (.inl rfl) (pe_op (op_catK (K := K) rfl) (pv 4) (pe_tup (pa_cons (pe_call G_pick (hr.mono (by decide)) (by rfl) m_pick k_pick b_pick .nil pass0 (pa_cons (pv 0) (pa_cons (pv 6) pa_nil))) pa_nil)))) (pss_one (ps_set (i := 3) sc_word.nd rfl (.inr rfl) (pe_call G_next (hr.mono (by decide)) (by rfl) m_next k_next b_next .nil pass0 (pa_cons (pv 1) (pa_cons (pv 3) (pa_cons (pe_ix (ix_ltK (K := K) rfl) (pv 4) (pe_un un_neg pe_int) (fun _ _ => rfl)) pa_nil))))))) pss_nil)))) (pss_one (ps_ret (pv 4))))), ?_⟩
  tm_at "s"
  refine ⟨_, n, m, Pi, pa, ad, rfl, hF, by omega, fun sa H1 e1 hsa => ?_⟩
  refine ⟨by tm_at "sz", fun wa nw => ?_⟩
  refine ⟨by tm_at "sz", fun t nt => ?_⟩
  have e3 := Same.new (o := .tup [.ref sa, .ref wa]) (Same.new (o := .tup []) e1 nw) nt
  have hsa3 := (Same.new (o := .tup [.ref sa, .ref wa]) (same_new (o := .tup []) nw) nt) _ _ hsa
  have hw3 : upd (upd H1 wa (.tup [])) t (.tup [.ref sa, .ref wa]) wa = some (.tup []) := keep_new nt upd_same
  have ht3 : upd (upd H1 wa (.tup [])) t (.tup [.ref sa, .ref wa]) t = some (.tup [.ref sa, .ref wa]) := upd_same
  generalize upd (upd H1 wa (.tup [])) t (.tup [.ref sa, .ref wa]) = H3 at e3 hsa3 hw3 ht3 ⊢
  clear hsa e1 nw nt
  have R3 := hR.same e3
  tm_at "s"
  refine ⟨_, _, _, rfl, R3, by first | decide | omega, by first | decide | omega, fun u H_u u0 u1 k_u R_u => ?_⟩
  obtain ⟨u, rfl⟩ := Int.eq_ofNat_of_zero_le u0
  have T3 := R3.ts k_u
  tm_at "s"
  tm_at "rg"
  refine for_rng (n := u) (fun i σ H4 => ∃ (x5 x6 : Option V) (sa wa : Addr) (ss : Nat → Int) (ws : List Int), σ = [some (.ref row), some (.ref f), some (.int 14), some (.ref sa), some (.ref wa), x5, x6, none] ∧ Kp row H H4 ∧ RowAt K H4 row sc ∧ H4 sa = some (.tup (itab m ss)) ∧ H4 wa = some (.tup (ws.map V.int)) ∧ ws.length ≤ i ∧ ∀ b ∈ ws, 0 ≤ b ∧ b < n)
    ⟨none, none, sa, wa, _, [], rfl, Kp.trans (Same.kp e3) k_u, R_u, T3 _ _ hsa3, T3 _ _ hw3, Nat.le_refl _, fun b hb => by cases hb⟩ ?_ ?_
  · clear hsa3 hw3 ht3 e3 T3 sa wa
    rintro i σ H4 hi ⟨x5, x6, sa, wa, ss, ws, rfl, k4, R4, hs4, hw4, hwl, hws⟩
    have F4 := hF.ts (hR.ts k4)
    tm_at "s"
    tm_at "rg"
    refine fun D nD => ?_
    refine comp_rng (n := n) (fun i H5 => Same H4 H5 ∧ ∃ ks : List Int, H5 D = some (.lst (ks.map V.int)) ∧ ks.length ≤ i ∧ ∀ k ∈ ks, 0 ≤ k ∧ k < n) ⟨same_new nD, [], upd_same, Nat.le_refl _, fun k hk => by cases hk⟩ ?_ ?_
    · rintro i H5 hi ⟨e5, ks, h5, hl, hks⟩
      refine ⟨rfl, ?_⟩
      tm_at "s"
      refine ⟨_, _, _, n, m, Pi, ss, pa, ad, rfl, F4.ts (Same.ts e5), e5 _ _ hs4, by omega, fun H6 e6 => ?_⟩
      tm_at "s"
      cases canM m Pi ss (i : Int) with
      | true =>
        tm_at "s"
        refine ⟨_, e6 _ _ h5, small_lt (by rw [List.length_map]; omega), Same.mut (Same.trans e5 e6) nD, ks ++ [(i : Int)], ?_, by rw [List.length_append]; exact Nat.succ_le_succ hl, fun k hk => ?_⟩
        · rw [upd_same, List.map_append]
          rfl
        · rcases List.mem_append.mp hk with hk | hk
          · exact hks k hk
          · have ek : k = (i : Int) := by simpa using hk
            omega
      | false => exact ⟨Same.trans e5 e6, ks, e6 _ _ h5, by omega, hks⟩
    rintro H5 ⟨e5, ks, h5, hl, hks⟩
    tm_at "s"
    refine ⟨by tm_at "sz", fun p np => ?_⟩
    have s6 := same_new (o := .lst []) np
    refine st_neL (ls := []) (keep_new np h5) upd_same ?_
    have e6 := Same.trans e5 s6
    have h6 := s6 _ _ h5
    generalize upd H5 p (.lst []) = H6 at s6 e6 h6 ⊢
    have F6 := F4.ts (Same.ts e6)
    have R6 := R4.same e6
    have k6 := Kp.same k4 e6
    have hs6 := e6 _ _ hs4
    have hw6 := e6 _ _ hw4
    tm_at "s"
    refine ite_ndec (fun c => ?_) (fun c => ?_)
    · have hlen : 1 ≤ ks.length := by
        cases ks with
        | nil => exact absurd rfl c
        | cons a b => exact Nat.succ_le_succ (Nat.zero_le _)
      tm_at "s"
      refine ⟨_, _, _, _, rfl, R6, h6, ?_, by rw [List.length_map]; exact hlen, by rw [List.length_map]; omega, fun kk v H7 hv k7 R7 => ?_⟩
      · obtain ⟨rx, hx⟩ := R4.lst
        exact (ne_of_none hx nD).symm
      rw [List.getElem?_map] at hv
      cases hkk : ks[kk]? with
      | none =>
        rw [hkk] at hv
        cases hv
      | some kv =>
      rw [hkk] at hv
      obtain rfl : V.int kv = v := Option.some.inj hv
      obtain ⟨kv0, kv1⟩ := hks kv (List.mem_of_getElem? hkk)
      have T7 := R6.ts k7
      have F7 := F6.ts T7
      have hs7 := T7 _ _ hs6
      have hw7 := T7 _ _ hw6
      refine ⟨by tm_at "sz", fun p2 np2 => ?_⟩
      refine st_cat (keep_new np2 hw7) upd_same (by rw [List.length_map]; show ws.length + 1 ≤ _; omega) fun w2 H8 e8 h8 => ?_
      have e78 := Same.trans (same_new (o := .tup [.int kv]) np2) e8
      have F8 := F7.ts (Same.ts e78)
      have hs8 := e78 _ _ hs7
      tm_at "s"
      refine ⟨_, _, _, _, rfl, rfl, .inr (SqT.of h8), atI_last _ _, ?_⟩
      refine ⟨_, _, _, n, m, Pi, ss, pa, ad, rfl, F8, hs8, by omega, fun s9 H9 e9 h9 => ?_⟩
      have e79 := Same.trans e78 e9
      refine ⟨_, _, s9, w2, _, ws ++ [kv], rfl, Kp.same (Kp.trans k6 k7) e79, R7.same e79, h9, ?_, by rw [List.length_append]; exact Nat.succ_le_succ hwl, fun b hb => ?_⟩
      · rw [e9 _ _ h8, List.map_append]
        rfl
      · rcases List.mem_append.mp hb with hb | hb
        · exact hws b hb
        · have eb : b = kv := by simpa using hb
          omega
    · exact ⟨_, _, sa, wa, ss, ws, rfl, k6, R6, hs6, hw6, by omega, hws⟩
  · rintro σ H4 ⟨x5, x6, sa, wa, ss, ws, rfl, k4, R4, hs4, hw4, hwl, hws⟩
    tm_at "s"
    exact q wa ws H4 k4 R4 hw4 (by omega) hws
end
end Rf
namespace Rf
open PySem PySem.Spec L2
local macro_rules | `(tactic| tm_at "hp") => `(tactic| (first | assumption | exact FlowAt.top (by assumption) | exact FlowAt.all (by assumption) | exact FlowAt.pipe (by assumption) _ (by assumption) | exact upd_same | (refine keep_new (by assumption) ?_; tm_at "hp")))
local macro_rules | `(tactic| tm_at "sq") => `(tactic| (first | exact .inl (by assumption) | exact .inr (by assumption) | exact .inr (SqT.of (by tm_at "hp")) | exact .inl (SqL.of (by tm_at "hp"))))
local macro_rules | `(tactic| tm_at "at") => `(tactic| (first | rfl | exact itab_at (by assumption) | exact tab_at (by assumption) | (refine itab_atI ?_ ?_ <;> assumption)))
local macro_rules | `(tactic| tm_at "ix") => `(tactic| (refine' ⟨_, _, _, _, rfl, rfl, ?hs, ?ha, ?_⟩; (case hs => tm_at "sq"); (case ha => tm_at "at")))
local macro_rules | `(tactic| tm_at "len") => `(tactic| (refine' ⟨_, _, rfl, ?hs, ?_⟩; (case hs => tm_at "sq"); (first | rw [itab_len] | rw [tab_len] | rw [List.length_map] | skip)))
local macro_rules | `(tactic| tm_at "rg") => `(tactic| (refine ⟨rg_lo, rg_hi (by omega), ?_⟩))
local macro_rules | `(tactic| tm_at "rgi") => `(tactic| (refine ⟨rgi_lo (by omega), rgi_hi (by omega), ?_⟩))
local macro_rules | `(tactic| tm_at "ut") => `(tactic| (refine' ⟨_, _, rfl, ?hs, ?hl, ?_⟩; (case hs => exact SqT.of (by tm_at "hp")); (case hl => rfl)))
local macro_rules | `(tactic| tm_at "s") => `(tactic| repeat (first | refine ⟨_, rfl, ?_⟩ | refine ⟨_, _, rfl, rfl, ?_⟩ | tm_at "ix" | tm_at "len" | tm_at "ut" | refine ⟨rfl, ?_⟩ | refine ⟨_, _, rfl, ?_⟩ | refine ⟨_, _, _, rfl, ?_⟩ | refine Or.inl ⟨_, rfl, ?_⟩ | refine ⟨Or.inl ⟨rfl, _, SqL.of (by tm_at "hp")⟩, ?_⟩))
local macro_rules | `(tactic| tm_at "tl") => `(tactic| (refine' ⟨_, _, rfl, Or.inl ⟨SqL.of ?hs, ?_⟩⟩; (case hs => tm_at "hp")))
local macro_rules | `(tactic| tm_at "set") => `(tactic| (refine' ⟨_, _, _, _, rfl, rfl, ?hs, ?hj, ?_⟩; (case hs => tm_at "hp"); (case hj => (first | rfl | exact tab_ixN (by assumption)))))
local macro_rules | `(tactic| tm_at "sz") => `(tactic| (first | exact small_ok (Nat.le_of_ble_eq_true rfl) | exact Nat.le_of_ble_eq_true rfl))
local macro_rules | `(tactic| tm_at "acc") => `(tactic| (refine' ⟨_, ?ha, ?hz, ?_⟩; (case ha => tm_at "hp"); (case hz => (first | rw [itab_len] | rw [tab_len] | rw [List.length_map] | skip); exact small_lt (by omega))))
local macro_rules | `(tactic| tm_at "ap") => `(tactic| (refine' ⟨_, _, _, rfl, rfl, ?hs, ?hz, ?_⟩; (case hs => tm_at "hp")))
local macro_rules | `(tactic| tm_at "sm") => `(tactic| (first | assumption | exact Same.refl _ | (refine Same.new ?_ (by assumption); tm_at "sm") | (refine Same.mut ?_ (by assumption); tm_at "sm")))
section
variable {P : Program} {w : World} {K : PySem.W.Frag} {mg : Str → Option Value} {base : Heap}

/-- how many firings one turn of the draw adds at most -/
def stepB : Nat → Nat
  | 0 => 1
  | d + 1 => 4 * bnd d
theorem bnd_eq (d : Nat) : bnd d = 3 * stepB d := by
  cases d with
  | zero => rfl
  | succ d =>
    show 12 * bnd d = 3 * (4 * bnd d)
    omega
theorem bnd_pos : ∀ d, 1 ≤ bnd d
  | 0 => by decide
  | d + 1 => by
    have := bnd_pos d
    show 1 ≤ 12 * bnd d
    omega
/-- the promise of the call inside: none at depth 0 -/
def spLoopIn (K : PySem.W.Frag) : Nat → Sp
  | 0 => fun _ _ _ _ => False
  | d + 1 => spLoop K d
theorem step_loop (d : Nat) (D : Df K mg "_law_loop" s_loop p_loop) (T : Tx mg) (C_taken : Ca P w K mg base CX0 1 "_law_taken" p_taken (spTaken K)) (C_loop : Ca P w K mg base CX0 (d + 1) "_law_loop" p_loop (spLoopIn K d)) (hd : d ≤ 2) : Ca P w K mg base CX0 (d + 2) "_law_loop" p_loop (spLoop K d) := by
  obtain ⟨f_taken, fd_taken, G_taken, m_taken, k_taken, b_taken⟩ := C_taken
  obtain ⟨f_loop, fd_loop, G_loop, m_loop, k_loop, b_loop⟩ := C_loop
  obtain ⟨f0, fd0, F0, gf0, bf0⟩ := D
  refine ⟨f0, fd0, ?_, gf0, F0.kp, bf0⟩
  refine F0.ok sc_loop (fun vs H Q E h => ?_) (fun cdv A outer s0 H vs Q E hr h => ?_)
  · obtain ⟨row, sc, rfl, _⟩ := h
    rfl
  obtain ⟨row, sc, rfl, hR, q⟩ := h
  refine ⟨_, (pss_cons (ps_set (i := 3) sc_loop.nd rfl (.inl rfl) (pe_tup pa_nil)) (pss_cons (ps_for PassesOwn.never rfl (pi_range1 (by rfl) T.z_range (pa_cons (pe_call G_taken (hr.mono (by omega)) (by rfl) m_taken k_taken b_taken .nil pass0 (pa_cons (pv 0) (pa_cons (pe_op op_add (pv 2) pe_int) pa_nil))) pa_nil)) (pg_name (i := 4) sc_loop.nd rfl (.inl rfl)) (pss_ct (ps_set (i := 5) sc_loop.nd rfl (.inl rfl) (pe_ifExp (PW.pt (pw_and (pt_cmpR op_gt (pv 1) pe_int (nomark _)) (pw_and1 (pt_cmpR op_eq (pe_call G_taken (hr.mono (by omega)) (by rfl) m_taken k_taken b_taken .nil pass0 (pa_cons (pv 0) (pa_cons pe_int pa_nil))) pe_int (nomark _))))) (pe_call G_loop (hr.mono (by omega)) (by rfl) m_loop k_loop b_loop .nil pass0 (pa_cons (pv 0) (pa_cons (pe_op op_sub (pv 1) pe_int) (pa_cons pe_int pa_nil)))) (pe_tup pa_nil))) (pss_one (ps_set (i := 3) sc_loop.nd rfl (.inl rfl) (pe_op (op_catK (K := K) rfl) (pv 3) (pe_ifExp (pt_cmpR (op_neK (K := K) rfl hr.units) (pv 5) (pe_tup pa_nil) (nomark _)) (pe_tup (pa_cons (pe_tup (pa_cons (pe_op op_add pe_int (pe_call G_taken (hr.mono (by omega)) (by rfl) m_taken k_taken b_taken .nil pass0 (pa_cons (pv 0) (pa_cons pe_int pa_nil)))) (pa_cons (pv 5) pa_nil))) pa_nil)) (pe_tup (pa_cons (pe_call G_taken (hr.mono (by omega)) (by rfl) m_taken k_taken b_taken .nil pass0 (pa_cons (pv 0) (pa_cons pe_int pa_nil))) pa_nil)))))))) (pss_one (ps_ret (pv 3))))), ?_⟩
  tm_at "s"
  refine ⟨by tm_at "sz", fun fa nfa => ?_⟩
  have e1 := same_new (o := .tup []) nfa
  have hf1 : upd H fa (.tup []) fa = some (.tup []) := upd_same
  have R1 := hR.same e1
  have k1 : Kp row H (upd H fa (.tup [])) := Same.kp e1
  generalize upd H fa (.tup []) = H1 at e1 hf1 R1 k1 ⊢
  tm_at "s"
  refine ⟨_, _, _, rfl, R1, by first | decide | omega, by first | decide | omega, fun u H_u u0 u1 k_u R_u => ?_⟩
  obtain ⟨u, rfl⟩ := Int.eq_ofNat_of_zero_le u0
  have T1 := R1.ts k_u
  tm_at "s"
  tm_at "rg"
  refine for_rng (n := u) (fun i σ H2 => ∃ (x4 x5 : Option V) (fa : Addr) (l : Lp), σ = [some (.ref row), some (.int d), some (.int 3), some (.ref fa), x4, x5] ∧ Kp row H H2 ∧ RowAt K H2 row sc ∧ LoopAt H2 fa l ∧ l.Ok d ∧ l.size ≤ i * stepB d)
    ⟨none, none, fa, .nil, rfl, Kp.trans k1 k_u, R_u, ⟨[], T1 _ _ hf1, rfl⟩, Lp.nil_ok, Nat.zero_le _⟩ ?_ ?_
  · clear hf1 R1 k1 e1 T1 R_u k_u nfa fa
    rintro i σ H2 hi ⟨x4, x5, fa, l, rfl, k2, R2, hL, hO, hs⟩
    tm_at "s"
    refine ⟨fun σ H3 => ∃ (b : Addr) (lb : Lp), σ = [some (.ref row), some (.int d), some (.int 3), some (.ref fa), some (.int i), some (.ref b)] ∧ Kp row H2 H3 ∧ RowAt K H3 row sc ∧ LoopAt H3 b lb ∧ (lb = .nil ∨ ∃ e, d = e + 1 ∧ lb.Ok e ∧ lb.size ≤ bnd e), ?_, ?_⟩
    · have em : ∀ H4, Kp row H2 H4 → RowAt K H4 row sc → ∀ p, H4 p = none → ∃ (b : Addr) (lb : Lp), [some (V.ref row), some (.int d), some (.int 3), some (.ref fa), some (.int i), some (.ref p)] = [some (V.ref row), some (.int d), some (.int 3), some (.ref fa), some (.int i), some (.ref b)] ∧ Kp row H2 (upd H4 p (.tup [])) ∧ RowAt K (upd H4 p (.tup [])) row sc ∧ LoopAt (upd H4 p (.tup [])) b lb ∧ (lb = .nil ∨ ∃ e, d = e + 1 ∧ lb.Ok e ∧ lb.size ≤ bnd e) :=
        fun H4 k4 R4 p np => ⟨p, .nil, rfl, Kp.new k4 np, R4.same (same_new np), ⟨[], upd_same, rfl⟩, .inl rfl⟩
      tm_at "s"
      refine ite_dec (fun c => ?_) (fun c => ?_)
      · tm_at "s"
        refine ⟨_, _, _, rfl, R2, by first | decide | omega, by first | decide | omega, fun v H_v v0 v1 k_v R_v => ?_⟩
        tm_at "s"
        refine ite_eqi (fun c2 => ?_) (fun c2 => ?_)
        · obtain ⟨e, rfl⟩ : ∃ e, d = e + 1 := ⟨d - 1, by omega⟩
          tm_at "s"
          refine ⟨row, sc, ?_, R_v, fun b lb H4 k4 R4 hb ho hz => ?_⟩
          · show [V.ref row, .int (((e + 1 : Nat) : Int) - 1), .int 3] = _
            rw [show ((e + 1 : Nat) : Int) - 1 = (e : Int) by omega]
          · exact ⟨b, lb, rfl, Kp.trans k_v k4, R4, hb, .inr ⟨e, rfl, ho, hz⟩⟩
        · tm_at "s"
          exact ⟨by tm_at "sz", em _ k_v R_v⟩
      · tm_at "s"
        exact ⟨by tm_at "sz", em _ Kp.refl R2⟩
    · rintro σ H3 ⟨b, lb, rfl, k3, R3, hb, ho⟩
      have k3' := Kp.trans k2 k3
      have hL3 := hL.ts (R2.ts k3)
      have hob : lb.Ok d := by
        rcases ho with rfl | ⟨e, rfl, ho, _⟩
        · exact Lp.nil_ok
        · exact ho.up
      tm_at "s"
      refine ⟨by tm_at "sz", fun z nz => ?_⟩
      have e4 := same_new (o := .tup []) nz
      refine st_neLp (hb.ts (Same.ts e4)) hob (by omega) upd_same ?_
      have hb4 := hb.ts (Same.ts e4)
      have hL4 := hL3.ts (Same.ts e4)
      have R4 := R3.same e4
      have k4 := Kp.same k3' e4
      generalize upd H3 z (.tup []) = H4 at e4 hb4 hL4 R4 k4 ⊢
      clear hb hL3 R3 k3' e4 nz
      obtain ⟨xs, hx4, hxA⟩ := hL4
      have hlen : l.len ≤ 10000 := by
        have := Lp.len_le hO
        have : i * stepB d ≤ 3 * stepB d := Nat.mul_le_mul_right _ (by omega)
        have : stepB d ≤ 144 := by
          obtain rfl | rfl | rfl : d = 0 ∨ d = 1 ∨ d = 2 := by omega
          all_goals decide
        omega
      rw [← hxA.len] at hlen
      cases hn : lb.isNil with
      | true =>
        tm_at "s"
        refine ⟨_, _, _, rfl, R4, by first | decide | omega, by first | decide | omega, fun v H_v v0 v1 k_v R_v => ?_⟩
        refine ⟨by tm_at "sz", fun p np => ?_⟩
        have ep := same_new (o := .tup [.int v]) np
        have T4 := R4.ts k_v
        refine st_cat (keep_new np (T4 _ _ hx4)) upd_same (by show _ + 1 ≤ _; omega) fun p2 H5 e5 h5 => ?_
        have e5' := Same.trans ep e5
        refine ⟨_, _, p2, _, rfl, Kp.same (Kp.trans k4 k_v) e5', R_v.same e5', ⟨_, h5, (Lp.At.app (y := .box v .nil) ⟨[], rfl, rfl⟩ (hxA.ts (Ts.trans T4 (Same.ts e5'))))⟩, Lp.ok_app (Lp.box_ok ⟨v0, by omega, Lp.nil_ok⟩) hO, ?_⟩
        rw [Lp.size_app, Nat.add_mul]
        have : 1 ≤ stepB d := by
          cases d with
          | zero => exact Nat.le_refl _
          | succ d =>
            have := bnd_pos d
            show 1 ≤ 4 * bnd d
            omega
        show l.size + 1 ≤ _
        omega
      | false =>
        have hnn := Lp.isNil_f hn
        rcases ho with rfl | ⟨e, rfl, ho, hoz⟩
        · exact absurd rfl hnn
        tm_at "s"
        refine ⟨_, _, _, rfl, R4, by first | decide | omega, by first | decide | omega, fun v H_v v0 v1 k_v R_v => ?_⟩
        have T4 := R4.ts k_v
        have hbv := hb4.ts T4
        obtain ⟨zs, hzb, hzA⟩ := hbv
        tm_at "s"
        refine ⟨by tm_at "sz", fun p np => ?_⟩
        have ep := same_new (o := .tup [.int (2 + v), .ref b]) np
        have hp : upd H_v p (.tup [.int (2 + v), .ref b]) p = some (.tup [.int (2 + v), .ref b]) := upd_same
        refine ⟨by tm_at "sz", fun p1 np1 => ?_⟩
        have ep1 := Same.new (o := .tup [.ref p]) ep np1
        refine st_cat (ep1 _ _ (T4 _ _ hx4)) upd_same (by show _ + 1 ≤ _; omega) fun p2 H5 e5 h5 => ?_
        have e5' := Same.trans ep1 e5
        refine ⟨_, _, p2, _, rfl, Kp.same (Kp.trans k4 k_v) e5', R_v.same e5', ⟨_, h5, (Lp.At.app (y := .rep (2 + v) lb .nil) ⟨p, b, zs, [], rfl, e5 _ _ (keep_new np1 hp), e5' _ _ hzb, hzA.ts (Same.ts e5'), rfl⟩ (hxA.ts (Ts.trans T4 (Same.ts e5'))))⟩, Lp.ok_app (Lp.rep_ok ⟨by omega, by omega, hnn, ho, Lp.nil_ok⟩) hO, ?_⟩
        rw [Lp.size_app, Nat.add_mul, Nat.one_mul]
        have : (2 + v).toNat * lb.size ≤ 4 * bnd e := Nat.mul_le_mul (by omega) hoz
        show l.size + ((2 + v).toNat * lb.size + 0) ≤ i * stepB (e + 1) + 4 * bnd e
        omega
  · rintro σ H2 ⟨x4, x5, fa, l, rfl, k2, R2, hL, hO, hs⟩
    tm_at "s"
    refine q fa l H2 k2 R2 hL hO ?_
    rw [bnd_eq]
    exact Nat.le_trans hs (Nat.mul_le_mul_right _ (by omega))
theorem ok_law_loop (D : Df K mg "_law_loop" s_loop p_loop) (T : Tx mg) (C_taken : Ca P w K mg base CX0 1 "_law_taken" p_taken (spTaken K)) : ∀ d, d ≤ 2 → Ca P w K mg base CX0 (d + 2) "_law_loop" p_loop (spLoop K d)
  | 0, _ => by
    obtain ⟨f, fd, F, gf, bf⟩ := D
    exact step_loop 0 ⟨f, fd, F, gf, bf⟩ T C_taken ⟨f, fd, fn_no (fun _ _ _ _ h => h), gf, F.kp, bf⟩ (by decide)
  | d + 1, h => step_loop (d + 1) D T C_taken (ok_law_loop D T C_taken d (by omega)) h
end
end Rf
namespace Rf
open PySem PySem.Spec L2
local macro_rules | `(tactic| tm_at "hp") => `(tactic| (first | assumption | exact FlowAt.top (by assumption) | exact FlowAt.all (by assumption) | exact FlowAt.pipe (by assumption) _ (by assumption) | exact upd_same | (refine keep_new (by assumption) ?_; tm_at "hp")))
local macro_rules | `(tactic| tm_at "sq") => `(tactic| (first | exact .inl (by assumption) | exact .inr (by assumption) | exact .inr (SqT.of (by tm_at "hp")) | exact .inl (SqL.of (by tm_at "hp"))))
local macro_rules | `(tactic| tm_at "at") => `(tactic| (first | rfl | exact itab_at (by assumption) | exact tab_at (by assumption) | (refine itab_atI ?_ ?_ <;> assumption)))
local macro_rules | `(tactic| tm_at "ix") => `(tactic| (refine' ⟨_, _, _, _, rfl, rfl, ?hs, ?ha, ?_⟩; (case hs => tm_at "sq"); (case ha => tm_at "at")))
local macro_rules | `(tactic| tm_at "len") => `(tactic| (refine' ⟨_, _, rfl, ?hs, ?_⟩; (case hs => tm_at "sq"); (first | rw [itab_len] | rw [tab_len] | rw [List.length_map] | skip)))
local macro_rules | `(tactic| tm_at "rg") => `(tactic| (refine ⟨rg_lo, rg_hi (by omega), ?_⟩))
local macro_rules | `(tactic| tm_at "rgi") => `(tactic| (refine ⟨rgi_lo (by omega), rgi_hi (by omega), ?_⟩))
local macro_rules | `(tactic| tm_at "ut") => `(tactic| (refine' ⟨_, _, rfl, ?hs, ?hl, ?_⟩; (case hs => exact SqT.of (by tm_at "hp")); (case hl => rfl)))
local macro_rules | `(tactic| tm_at "s") => `(tactic| repeat (first | refine ⟨_, rfl, ?_⟩ | refine ⟨_, _, rfl, rfl, ?_⟩ | tm_at "ix" | tm_at "len" | tm_at "ut" | refine ⟨rfl, ?_⟩ | refine ⟨_, _, rfl, ?_⟩ | refine ⟨_, _, _, rfl, ?_⟩ | refine Or.inl ⟨_, rfl, ?_⟩ | refine ⟨Or.inl ⟨rfl, _, SqL.of (by tm_at "hp")⟩, ?_⟩))
local macro_rules | `(tactic| tm_at "tl") => `(tactic| (refine' ⟨_, _, rfl, Or.inl ⟨SqL.of ?hs, ?_⟩⟩; (case hs => tm_at "hp")))
local macro_rules | `(tactic| tm_at "set") => `(tactic| (refine' ⟨_, _, _, _, rfl, rfl, ?hs, ?hj, ?_⟩; (case hs => tm_at "hp"); (case hj => (first | rfl | exact tab_ixN (by assumption)))))
local macro_rules | `(tactic| tm_at "sz") => `(tactic| (first | exact small_ok (Nat.le_of_ble_eq_true rfl) | exact Nat.le_of_ble_eq_true rfl))
local macro_rules | `(tactic| tm_at "acc") => `(tactic| (refine' ⟨_, ?ha, ?hz, ?_⟩; (case ha => tm_at "hp"); (case hz => (first | rw [itab_len] | rw [tab_len] | rw [List.length_map] | skip); exact small_lt (by omega))))
local macro_rules | `(tactic| tm_at "ap") => `(tactic| (refine' ⟨_, _, _, rfl, rfl, ?hs, ?hz, ?_⟩; (case hs => tm_at "hp")))
local macro_rules | `(tactic| tm_at "sm") => `(tactic| (first | assumption | exact Same.refl _ | (refine Same.new ?_ (by assumption); tm_at "sm") | (refine Same.mut ?_ (by assumption); tm_at "sm")))
section
variable {P : Program} {w : World} {K : PySem.W.Frag} {mg : Str → Option Value} {base : Heap}

/-- the promise of the call inside: none at depth 0 -/
def spUnrIn : Nat → Sp
  | 0 => fun _ _ _ _ => False
  | d + 1 => spUnr d
theorem step_unr (d : Nat) (D : Df K mg "_law_unrolled" s_unrolled p_unrolled) (T : Tx mg) (C_unrolled : Ca P w K mg base CX0 d "_law_unrolled" p_unrolled (spUnrIn d)) : Ca P w K mg base CX0 (d + 1) "_law_unrolled" p_unrolled (spUnr d) := by
  obtain ⟨f_unrolled, fd_unrolled, G_unrolled, m_unrolled, k_unrolled, b_unrolled⟩ := C_unrolled
  obtain ⟨f0, fd0, F0, gf0, bf0⟩ := D
  refine ⟨f0, fd0, ?_, gf0, F0.kp, bf0⟩
  refine F0.ok sc_unrolled (fun vs H Q E h => ?_) (fun cdv A outer s0 H vs Q E hr h => ?_)
  · obtain ⟨a, l, rfl, _⟩ := h
    rfl
  obtain ⟨a, l, rfl, hL, hO, hz, q⟩ := h
  refine ⟨_, (pss_cons (ps_set (i := 1) sc_unrolled.nd rfl (.inl rfl) (pe_tup pa_nil)) (pss_cons (ps_for PassesOwn.never rfl (pi_tupK (K := K) rfl (pv 0)) (pg_name (i := 2) sc_unrolled.nd rfl (.inl rfl)) (pss_cons (ps_for PassesOwn.never rfl (pi_range1 (by rfl) T.z_range (pa_cons (pe_ifExp (pt_val (pe_callB call_is (by rfl) T.z_isinstance (by decide +kernel) (pa_cons (pv 2) (pa_cons (pe_bltn (v := .ty "tuple") (by rfl) T.z_tuple (by decide +kernel) rfl) pa_nil)))) (pe_ix (ix_ltK (K := K) rfl) (pv 2) pe_int (fun _ _ => rfl)) pe_int) pa_nil)) (pg_name (i := 3) sc_unrolled.nd rfl (.inl rfl)) (pss_one (ps_set (i := 1) sc_unrolled.nd rfl (.inl rfl) (pe_op (op_catK (K := K) rfl) (pv 1) (pe_call G_unrolled (hr.mono (by omega)) (by rfl) m_unrolled k_unrolled b_unrolled .nil pass0 (pa_cons (pe_ix (ix_ltK (K := K) rfl) (pv 2) pe_int (fun _ _ => rfl)) pa_nil)))))) (pss_one (ps_set (i := 1) sc_unrolled.nd rfl (.inl rfl) (pe_op (op_catK (K := K) rfl) (pv 1) (pe_ifExp (pt_val (pe_callB call_is (by rfl) T.z_isinstance (by decide +kernel) (pa_cons (pv 2) (pa_cons (pe_bltn (v := .ty "tuple") (by rfl) T.z_tuple (by decide +kernel) rfl) pa_nil)))) (pe_tup pa_nil) (pe_tup (pa_cons (pv 2) pa_nil)))))))) (pss_one (ps_ret (pv 1))))), ?_⟩
  obtain ⟨xs, hx, hA⟩ := hL
  have hxl : xs.length ≤ 2000 := by
    rw [hA.len]
    exact Nat.le_trans (Lp.len_le hO) hz
  tm_at "s"
  refine ⟨by tm_at "sz", fun fa nfa => ?_⟩
  tm_at "s"
  refine ⟨⟨_, SqT.of (keep_new nfa hx)⟩, ?_⟩
  refine for_tup (K := K) (a := a) (xs := xs) (fun i σ H2 => ∃ (x2 x3 : Option V) (fa : Addr) (ws : List Int), σ = [some (.ref a), some (.ref fa), x2, x3] ∧ Same H H2 ∧ H2 fa = some (.tup (ws.map V.int)) ∧ ws ++ (l.drop i).unr = l.unr)
    ⟨none, none, fa, [], rfl, same_new nfa, upd_same, rfl⟩ ?_ ?_ ?_
  · rintro i σ H2 hi ⟨_, _, _, _, rfl, e2, _⟩
    exact SqT.of (e2 _ _ hx)
  · clear nfa fa
    rintro i x σ H2 hxi ⟨x2, x3, fa, ws, rfl, e2, hf, hw⟩
    have hlen := congrArg List.length hw
    rw [List.length_append, Lp.unr_len, Lp.unr_len] at hlen
    have hA2 := hA.ts (Same.ts e2)
    have hOi := Lp.ok_drop hO i
    rcases hA2.item hxi with ⟨b, el, rfl⟩ | ⟨t, body, p, q2, zs, el, rfl, hp, hq2, hB⟩
    · rw [el] at hw
      tm_at "s"
      refine ⟨_, _, _, _, rfl, .int _, kb_it, ?_⟩
      tm_at "s"
      refine ⟨rgi_lo (by decide), rgi_hi (by decide), ?_⟩
      refine for_rng (n := 0) (fun j σ H3 => σ = [some (.ref a), some (.ref fa), some (.int b), x3] ∧ H3 = H2) ⟨rfl, rfl⟩ (fun j σ H3 hj _ => absurd hj (Nat.not_lt_zero j)) ?_
      rintro σ H3 ⟨rfl, rfl⟩
      tm_at "s"
      refine ⟨_, _, _, _, rfl, .int _, kb_it, ?_⟩
      tm_at "s"
      refine ⟨by tm_at "sz", fun p np => ?_⟩
      refine st_cat (keep_new np hf) upd_same (by rw [List.length_map]; show _ + 1 ≤ _; omega) fun p2 H4 e4 h4 => ?_
      refine ⟨_, _, p2, ws ++ [b], rfl, Same.trans e2 (Same.trans (same_new np) e4), ?_, ?_⟩
      · rw [h4, List.map_append]
        rfl
      · rw [← hw, List.append_assoc]
        rfl
    · rw [el] at hw hlen hOi
      obtain ⟨e, rfl, t2, t9, hn, hb, hr⟩ := Lp.ok_rep hOi
      have h1 : t.toNat * body.size + (l.drop (i + 1)).size = (Lp.rep t body (l.drop (i + 1))).size := rfl
      tm_at "s"
      refine ⟨_, _, _, _, rfl, .tup _ _ hp, kb_tt, ?_⟩
      tm_at "s"
      tm_at "rgi"
      refine for_rng (n := t.toNat) (fun j σ H3 => ∃ (x3 : Option V) (fa : Addr), σ = [some (.ref a), some (.ref fa), some (.ref p), x3] ∧ Same H2 H3 ∧ H3 fa = some (.tup ((ws ++ (List.replicate j body.unr).flatten).map V.int)))
        ⟨_, fa, rfl, Same.refl _, by rw [hf]; show _ = some (HO.tup ((ws ++ []).map V.int)); rw [List.append_nil]⟩ ?_ ?_
      · clear hf fa
        rintro j σ H3 hj ⟨x3, fa, rfl, e3, hf⟩
        have hjt : j * body.size ≤ t.toNat * body.size := Nat.mul_le_mul_right _ (by omega)
        have hb1 : 1 * body.size ≤ t.toNat * body.size := Nat.mul_le_mul_right _ (by omega)
        have hp3 := e3 _ _ hp
        tm_at "s"
        refine ⟨q2, body, rfl, ⟨zs, e3 _ _ hq2, hB.ts (Same.ts e3)⟩, hb, by omega, fun p4 H4 e4 h4 => ?_⟩
        refine st_cat (e4 _ _ hf) h4 ?_ fun p5 H5 e5 h5 => ?_
        · rw [List.length_map, List.length_map, List.length_append, List.length_flatten, List.map_replicate, List.sum_replicate_nat, Lp.unr_len]
          omega
        · refine ⟨_, p5, rfl, Same.trans e3 (Same.trans e4 e5), ?_⟩
          rw [h5, ← List.map_append, List.append_assoc, List.replicate_succ', List.flatten_append, List.flatten_singleton]
      · rintro σ H3 ⟨x3, fa, rfl, e3, hf⟩
        tm_at "s"
        refine ⟨_, _, _, _, rfl, .tup _ _ (e3 _ _ hp), kb_tt, ?_⟩
        tm_at "s"
        refine ⟨by tm_at "sz", fun p np => ?_⟩
        refine st_cat (keep_new np hf) upd_same ?_ fun p2 H4 e4 h4 => ?_
        · rw [List.length_map, List.length_append, List.length_flatten, List.map_replicate, List.sum_replicate_nat, Lp.unr_len]
          show _ + 0 ≤ _
          omega
        refine ⟨_, _, p2, ws ++ (List.replicate t.toNat body.unr).flatten, rfl, Same.trans e2 (Same.trans e3 (Same.trans (same_new np) e4)), ?_, ?_⟩
        · rw [h4, List.append_nil]
        · rw [← hw, List.append_assoc]
          rfl
  · rintro σ H2 ⟨x2, x3, fa, ws, rfl, e2, hf, hw⟩
    tm_at "s"
    rw [hA.done] at hw
    have hw' : ws = l.unr := by
      rw [← hw]
      exact (List.append_nil ws).symm
    subst hw'
    exact q fa H2 e2 hf
theorem ok_law_unrolled (D : Df K mg "_law_unrolled" s_unrolled p_unrolled) (T : Tx mg) : ∀ d, Ca P w K mg base CX0 (d + 1) "_law_unrolled" p_unrolled (spUnr d)
  | 0 => by
    obtain ⟨f, fd, F, gf, bf⟩ := D
    exact step_unr 0 ⟨f, fd, F, gf, bf⟩ T ⟨f, fd, fn_no (fun _ _ _ _ h => h), gf, F.kp, bf⟩
  | d + 1 => step_unr (d + 1) D T (ok_law_unrolled D T d)
end
end Rf
namespace Rf
open PySem PySem.Spec L2
local macro_rules | `(tactic| tm_at "hp") => `(tactic| (first | assumption | exact FlowAt.top (by assumption) | exact FlowAt.all (by assumption) | exact FlowAt.pipe (by assumption) _ (by assumption) | exact upd_same | (refine keep_new (by assumption) ?_; tm_at "hp")))
local macro_rules | `(tactic| tm_at "sq") => `(tactic| (first | exact .inl (by assumption) | exact .inr (by assumption) | exact .inr (SqT.of (by tm_at "hp")) | exact .inl (SqL.of (by tm_at "hp"))))
local macro_rules | `(tactic| tm_at "at") => `(tactic| (first | rfl | exact itab_at (by assumption) | exact tab_at (by assumption) | (refine itab_atI ?_ ?_ <;> assumption)))
local macro_rules | `(tactic| tm_at "ix") => `(tactic| (refine' ⟨_, _, _, _, rfl, rfl, ?hs, ?ha, ?_⟩; (case hs => tm_at "sq"); (case ha => tm_at "at")))
local macro_rules | `(tactic| tm_at "len") => `(tactic| (refine' ⟨_, _, rfl, ?hs, ?_⟩; (case hs => tm_at "sq"); (first | rw [itab_len] | rw [tab_len] | rw [List.length_map] | skip)))
local macro_rules | `(tactic| tm_at "rg") => `(tactic| (refine ⟨rg_lo, rg_hi (by omega), ?_⟩))
local macro_rules | `(tactic| tm_at "rgi") => `(tactic| (refine ⟨rgi_lo (by omega), rgi_hi (by omega), ?_⟩))
local macro_rules | `(tactic| tm_at "ut") => `(tactic| (refine' ⟨_, _, rfl, ?hs, ?hl, ?_⟩; (case hs => exact SqT.of (by tm_at "hp")); (case hl => rfl)))
local macro_rules | `(tactic| tm_at "s") => `(tactic| repeat (first | refine ⟨_, rfl, ?_⟩ | refine ⟨_, _, rfl, rfl, ?_⟩ | tm_at "ix" | tm_at "len" | tm_at "ut" | refine ⟨rfl, ?_⟩ | refine ⟨_, _, rfl, ?_⟩ | refine ⟨_, _, _, rfl, ?_⟩ | refine Or.inl ⟨_, rfl, ?_⟩ | refine ⟨Or.inl ⟨rfl, _, SqL.of (by tm_at "hp")⟩, ?_⟩))
local macro_rules | `(tactic| tm_at "tl") => `(tactic| (refine' ⟨_, _, rfl, Or.inl ⟨SqL.of ?hs, ?_⟩⟩; (case hs => tm_at "hp")))
local macro_rules | `(tactic| tm_at "set") => `(tactic| (refine' ⟨_, _, _, _, rfl, rfl, ?hs, ?hj, ?_⟩; (case hs => tm_at "hp"); (case hj => (first | rfl | exact tab_ixN (by assumption)))))
local macro_rules | `(tactic| tm_at "sz") => `(tactic| (first | exact small_ok (Nat.le_of_ble_eq_true rfl) | exact Nat.le_of_ble_eq_true rfl))
local macro_rules | `(tactic| tm_at "acc") => `(tactic| (refine' ⟨_, ?ha, ?hz, ?_⟩; (case ha => tm_at "hp"); (case hz => (first | rw [itab_len] | rw [tab_len] | rw [List.length_map] | skip); exact small_lt (by omega))))
local macro_rules | `(tactic| tm_at "ap") => `(tactic| (refine' ⟨_, _, _, rfl, rfl, ?hs, ?hz, ?_⟩; (case hs => tm_at "hp")))
local macro_rules | `(tactic| tm_at "sm") => `(tactic| (first | assumption | exact Same.refl _ | (refine Same.new ?_ (by assumption); tm_at "sm") | (refine Same.mut ?_ (by assumption); tm_at "sm")))
section
variable {P : Program} {w : World} {K : PySem.W.Frag} {mg : Str → Option Value} {base : Heap}

theorem StpsIn.len {H : Hp} {xs : List V} {cs : List Stp} (h : StpsIn H xs cs) : xs.length = cs.length := by
  obtain ⟨ad, h, _⟩ := h
  rw [h, tab_len]
theorem StpsIn.code {H : Hp} {a : Addr} {xs : List V} {cs : List Stp} (h : StpsIn H xs cs) (ha : H a = some (.tup xs)) : ∃ ad, CodeAt H a cs ad := by
  obtain ⟨ad, h1, h2⟩ := h
  exact ⟨ad, by rw [ha, h1], h2⟩
theorem CodeAt.stps {H : Hp} {a : Addr} {cs : List Stp} {ad : Nat → Addr} (h : CodeAt H a cs ad) : ∃ xs, H a = some (.tup xs) ∧ StpsIn H xs cs := ⟨_, h.1, ad, rfl, h.2⟩
/-- the promise of the call inside: none at depth 0 -/
def spCodeIn : Nat → Sp
  | 0 => fun _ _ _ _ => False
  | d + 1 => spCode d
theorem step_code (d : Nat) (D : Df K mg "_law_code" s_code p_code) (T : Tx mg) (C_code : Ca P w K mg base CX0 d "_law_code" p_code (spCodeIn d)) : Ca P w K mg base CX0 (d + 1) "_law_code" p_code (spCode d) := by
  obtain ⟨f_code, fd_code, G_code, m_code, k_code, b_code⟩ := C_code
  obtain ⟨f0, fd0, F0, gf0, bf0⟩ := D
  refine ⟨f0, fd0, ?_, gf0, F0.kp, bf0⟩
  refine F0.ok sc_code (fun vs H Q E h => ?_) (fun cdv A outer s0 H vs Q E hr h => ?_)
  · obtain ⟨a, l, rfl, _⟩ := h
    rfl
  obtain ⟨a, l, rfl, hL, hO, hz, q⟩ := h
  refine ⟨_, (pss_cons (ps_set (i := 1) sc_code.nd rfl (.inl rfl) (pe_tup pa_nil)) (pss_cons (ps_for PassesOwn.never rfl (pi_tupK (K := K) rfl (pv 0)) (pg_name (i := 2) sc_code.nd rfl (.inl rfl)) (pss_one (ps_if (pt_val (pe_callB call_is (by rfl) T.z_isinstance (by decide +kernel) (pa_cons (pv 2) (pa_cons (pe_bltn (v := .ty "tuple") (by rfl) T.z_tuple (by decide +kernel) rfl) pa_nil)))) (pss_one (ps_set (i := 1) sc_code.nd rfl (.inl rfl) (pe_op (op_catK (K := K) rfl) (pe_op (op_catK (K := K) rfl) (pe_op (op_catK (K := K) rfl) (pv 1) (pe_tup (pa_cons (pe_tup (pa_cons pe_str (pa_cons (pe_ix (ix_ltK (K := K) rfl) (pv 2) pe_int (fun _ _ => rfl)) pa_nil))) pa_nil))) (pe_call G_code (hr.mono (by omega)) (by rfl) m_code k_code b_code .nil pass0 (pa_cons (pe_ix (ix_ltK (K := K) rfl) (pv 2) pe_int (fun _ _ => rfl)) pa_nil))) (pe_tup (pa_cons (pe_tup (pa_cons pe_str pa_nil)) pa_nil))))) (pss_one (ps_set (i := 1) sc_code.nd rfl (.inl rfl) (pe_op (op_catK (K := K) rfl) (pv 1) (pe_tup (pa_cons (pe_tup (pa_cons pe_str (pa_cons (pv 2) pa_nil))) pa_nil)))))))) (pss_one (ps_ret (pv 1))))), ?_⟩
  obtain ⟨xs, hx, hA⟩ := hL
  have hxl : xs.length ≤ 2000 := by
    rw [hA.len]
    exact Nat.le_trans (Lp.len_le hO) hz
  have hcl := Lp.code_len hO
  tm_at "s"
  refine ⟨by tm_at "sz", fun fa nfa => ?_⟩
  tm_at "s"
  refine ⟨⟨_, SqT.of (keep_new nfa hx)⟩, ?_⟩
  refine for_tup (K := K) (a := a) (xs := xs) (fun i σ H2 => ∃ (x2 : Option V) (fa : Addr) (ys : List V) (cs : List Stp), σ = [some (.ref a), some (.ref fa), x2] ∧ Same H H2 ∧ H2 fa = some (.tup ys) ∧ StpsIn H2 ys cs ∧ cs ++ (l.drop i).code = l.code)
    ⟨none, fa, [], [], rfl, same_new nfa, upd_same, StpsIn.nil, rfl⟩ ?_ ?_ ?_
  · rintro i σ H2 hi ⟨_, _, _, _, rfl, e2, _⟩
    exact SqT.of (e2 _ _ hx)
  · clear nfa fa
    rintro i x σ H2 hxi ⟨x2, fa, ys, cs, rfl, e2, hf, hy, hw⟩
    have hlen := congrArg List.length hw
    have hyl := hy.len
    rw [List.length_append] at hlen
    have hA2 := hA.ts (Same.ts e2)
    have hOi := Lp.ok_drop hO i
    have hsi := Lp.size_drop l i
    rcases hA2.item hxi with ⟨b, el, rfl⟩ | ⟨t, body, p, q2, zs, el, rfl, hp, hq2, hB⟩
    · rw [el] at hw hlen
      tm_at "s"
      refine ⟨_, _, _, _, rfl, .int _, kb_it, ?_⟩
      tm_at "s"
      refine ⟨by tm_at "sz", fun p np => ?_⟩
      have e3 := same_new (o := .tup [.str "fire", .int b]) np
      have hp : upd H2 p (.tup [.str "fire", .int b]) p = some (.tup [.str "fire", .int b]) := upd_same
      refine ⟨by tm_at "sz", fun p1 np1 => ?_⟩
      have e4 := Same.new (o := .tup [.ref p]) e3 np1
      refine st_cat (e4 _ _ hf) upd_same (by show _ + 1 ≤ _; omega) fun p2 H5 e5 h5 => ?_
      have e6 := Same.trans e4 e5
      refine ⟨_, p2, _, cs ++ [.fire b], rfl, Same.trans e2 e6, h5, (hy.ts (Same.ts e6)).app (StpsIn.one (c := .fire b) (e5 _ _ (keep_new np1 hp))), ?_⟩
      rw [← hw, List.append_assoc]
      rfl
    · rw [el] at hw hlen hOi hsi
      obtain ⟨e, rfl, t2, t9, hn, hb, hr⟩ := Lp.ok_rep hOi
      have h1 : t.toNat * body.size + (l.drop (i + 1)).size = (Lp.rep t body (l.drop (i + 1))).size := rfl
      have hb1 : 1 * body.size ≤ t.toNat * body.size := Nat.mul_le_mul_right _ (by omega)
      have hbl := Lp.code_len hb
      tm_at "s"
      refine ⟨_, _, _, _, rfl, .tup _ _ hp, kb_tt, ?_⟩
      tm_at "s"
      refine ⟨by tm_at "sz", fun p3 np3 => ?_⟩
      have e3 := same_new (o := .tup [.str "repeat", .int t]) np3
      have hp3 : upd H2 p3 (.tup [.str "repeat", .int t]) p3 = some (.tup [.str "repeat", .int t]) := upd_same
      tm_at "s"
      refine ⟨by tm_at "sz", fun p4 np4 => ?_⟩
      have e4 := Same.new (o := .tup [.ref p3]) e3 np4
      refine st_cat (e4 _ _ hf) upd_same (by show _ + 1 ≤ _; omega) fun p5 H5 e5 h5 => ?_
      have e6 := Same.trans e4 e5
      have hy5 := (hy.ts (Same.ts e6)).app (StpsIn.one (c := .rep t) (e5 _ _ (keep_new np4 hp3)))
      have hpp := e6 _ _ hp
      tm_at "s"
      refine ⟨q2, body, rfl, ⟨zs, e6 _ _ hq2, hB.ts (Same.ts e6)⟩, hb, by omega, fun p6 ad6 H6 e7 h6 => ?_⟩
      obtain ⟨us, hu, hus⟩ := h6.stps
      have hul := hus.len
      refine st_cat (e7 _ _ h5) hu ?_ fun p7 H7 e8 h7 => ?_
      · rw [List.length_append]
        show _ + 1 + _ ≤ _
        omega
      have hy7 := (hy5.ts (Same.ts (Same.trans e7 e8))).app (hus.ts (Same.ts e8))
      tm_at "s"
      refine ⟨by tm_at "sz", fun p8 np8 => ?_⟩
      have e9 := same_new (o := .tup [.str "again"]) np8
      have hp8 : upd H7 p8 (.tup [.str "again"]) p8 = some (.tup [.str "again"]) := upd_same
      refine ⟨by tm_at "sz", fun p9 np9 => ?_⟩
      have e10 := Same.new (o := .tup [.ref p8]) e9 np9
      refine st_cat (e10 _ _ h7) upd_same ?_ fun p11 H11 e11 h11 => ?_
      · rw [List.length_append, List.length_append]
        show _ + 1 + _ + 1 ≤ _
        omega
      have e12 := Same.trans e10 e11
      refine ⟨_, p11, _, cs ++ [.rep t] ++ body.code ++ [.again], rfl, Same.trans e2 (Same.trans e6 (Same.trans e7 (Same.trans e8 e12))), h11, (hy7.ts (Same.ts e12)).app (StpsIn.one (c := .again) (e11 _ _ (keep_new np9 hp8))), ?_⟩
      rw [← hw]
      show _ = cs ++ (.rep t :: (body.code ++ .again :: (l.drop (i + 1)).code))
      simp only [List.append_assoc, List.cons_append, List.nil_append]
  · rintro σ H2 ⟨x2, fa, ys, cs, rfl, e2, hf, hy, hw⟩
    tm_at "s"
    rw [hA.done] at hw
    have hw' : cs = l.code := by
      rw [← hw]
      exact (List.append_nil cs).symm
    subst hw'
    obtain ⟨ad, hc⟩ := hy.code hf
    exact q fa ad H2 e2 hc
theorem ok_law_code (D : Df K mg "_law_code" s_code p_code) (T : Tx mg) : ∀ d, Ca P w K mg base CX0 (d + 1) "_law_code" p_code (spCode d)
  | 0 => by
    obtain ⟨f, fd, F, gf, bf⟩ := D
    exact step_code 0 ⟨f, fd, F, gf, bf⟩ T ⟨f, fd, fn_no (fun _ _ _ _ h => h), gf, F.kp, bf⟩
  | d + 1 => step_code (d + 1) D T (ok_law_code D T d)
end
end Rf
namespace Rf
open PySem PySem.Spec L2
local macro_rules | `(tactic| tm_at "hp") => `(tactic| (first | assumption | exact FlowAt.top (by assumption) | exact FlowAt.all (by assumption) | exact FlowAt.pipe (by assumption) _ (by assumption) | exact upd_same | (refine keep_new (by assumption) ?_; tm_at "hp")))
local macro_rules | `(tactic| tm_at "sq") => `(tactic| (first | exact .inl (by assumption) | exact .inr (by assumption) | exact .inr (SqT.of (by tm_at "hp")) | exact .inl (SqL.of (by tm_at "hp"))))
local macro_rules | `(tactic| tm_at "at") => `(tactic| (first | rfl | exact itab_at (by assumption) | exact tab_at (by assumption) | (refine itab_atI ?_ ?_ <;> assumption)))
local macro_rules | `(tactic| tm_at "ix") => `(tactic| (refine' ⟨_, _, _, _, rfl, rfl, ?hs, ?ha, ?_⟩; (case hs => tm_at "sq"); (case ha => tm_at "at")))
local macro_rules | `(tactic| tm_at "len") => `(tactic| (refine' ⟨_, _, rfl, ?hs, ?_⟩; (case hs => tm_at "sq"); (first | rw [itab_len] | rw [tab_len] | rw [List.length_map] | skip)))
local macro_rules | `(tactic| tm_at "rg") => `(tactic| (refine ⟨rg_lo, rg_hi (by omega), ?_⟩))
local macro_rules | `(tactic| tm_at "rgi") => `(tactic| (refine ⟨rgi_lo (by omega), rgi_hi (by omega), ?_⟩))
local macro_rules | `(tactic| tm_at "ut") => `(tactic| (refine' ⟨_, _, rfl, ?hs, ?hl, ?_⟩; (case hs => exact SqT.of (by tm_at "hp")); (case hl => rfl)))
local macro_rules | `(tactic| tm_at "s") => `(tactic| repeat (first | refine ⟨_, rfl, ?_⟩ | refine ⟨_, _, rfl, rfl, ?_⟩ | tm_at "ix" | tm_at "len" | tm_at "ut" | refine ⟨rfl, ?_⟩ | refine ⟨_, _, rfl, ?_⟩ | refine ⟨_, _, _, rfl, ?_⟩ | refine Or.inl ⟨_, rfl, ?_⟩ | refine ⟨Or.inl ⟨rfl, _, SqL.of (by tm_at "hp")⟩, ?_⟩))
local macro_rules | `(tactic| tm_at "tl") => `(tactic| (refine' ⟨_, _, rfl, Or.inl ⟨SqL.of ?hs, ?_⟩⟩; (case hs => tm_at "hp")))
local macro_rules | `(tactic| tm_at "set") => `(tactic| (refine' ⟨_, _, _, _, rfl, rfl, ?hs, ?hj, ?_⟩; (case hs => tm_at "hp"); (case hj => (first | rfl | exact tab_ixN (by assumption)))))
local macro_rules | `(tactic| tm_at "sz") => `(tactic| (first | exact small_ok (Nat.le_of_ble_eq_true rfl) | exact Nat.le_of_ble_eq_true rfl))
local macro_rules | `(tactic| tm_at "acc") => `(tactic| (refine' ⟨_, ?ha, ?hz, ?_⟩; (case ha => tm_at "hp"); (case hz => (first | rw [itab_len] | rw [tab_len] | rw [List.length_map] | skip); exact small_lt (by omega))))
local macro_rules | `(tactic| tm_at "ap") => `(tactic| (refine' ⟨_, _, _, rfl, rfl, ?hs, ?hz, ?_⟩; (case hs => tm_at "hp")))
local macro_rules | `(tactic| tm_at "sm") => `(tactic| (first | assumption | exact Same.refl _ | (refine Same.new ?_ (by assumption); tm_at "sm") | (refine Same.mut ?_ (by assumption); tm_at "sm")))
section
variable {P : Program} {w : World} {K : PySem.W.Frag} {mg : Str → Option Value} {base : Heap}

theorem ok_peaks (D : Df K mg "_law_peaks" s_peaks p_peaks) (T : Tx mg) (C_some : Ca P w K mg base CX0 1 "_law_some" p_some spSome) (C_next : Ca P w K mg base CX0 1 "_law_next" p_next spNext) : Ca P w K mg base CX0 2 "_law_peaks" p_peaks spPeaks := by
  obtain ⟨f_some, fd_some, G_some, m_some, k_some, b_some⟩ := C_some
  obtain ⟨f_next, fd_next, G_next, m_next, k_next, b_next⟩ := C_next
  obtain ⟨f0, fd0, F0, gf0, bf0⟩ := D
  refine ⟨f0, fd0, ?_, gf0, F0.kp, bf0⟩
  refine F0.ok sc_peaks (fun vs H Q E h => ?_) (fun cdv A outer s0 H vs Q E hr h => ?_)
  · obtain ⟨f, wa, n, m, Pi, ws, pa, ad, rfl, _⟩ := h
    rfl
  obtain ⟨f, wa, n, m, Pi, ws, pa, ad, rfl, hF, hO, hw, hwl, q⟩ := h
  have hn5 := hO.n5
  have hm6 := hO.m6
  refine ⟨_, (pss_cons (ps_par (i := 2) (j := 3) (by rfl) sc_peaks.nd rfl rfl (by decide) rfl rfl (pa_cons (pe_call G_some (hr.mono (by decide)) (by rfl) m_some k_some b_some .nil pass0 (pa_cons (pv 0) pa_nil)) (pa_cons (pe_callTy (call_listK (K := K) rfl) (by rfl) T.z_list (by decide +kernel) (pa_cons (pe_call G_some (hr.mono (by decide)) (by rfl) m_some k_some b_some .nil pass0 (pa_cons (pv 0) pa_nil)) pa_nil)) pa_nil)) (by rfl)) (pss_cons (ps_for PassesOwn.never rfl (pi_tupK (K := K) rfl (pv 1)) (pg_name (i := 4) sc_peaks.nd rfl (.inl rfl)) (pss_cons (ps_set (i := 5) sc_peaks.nd rfl (.inl rfl) (pe_call G_next (hr.mono (by decide)) (by rfl) m_next k_next b_next .nil pass0 (pa_cons (pv 0) (pa_cons (pv 2) (pa_cons (pv 4) pa_nil))))) (pss_cons (ps_for PassesOwn.never rfl (pi_range1 (by rfl) T.z_range (pa_cons (pe_callB (call_lenK (K := K) rfl) (by rfl) T.z_len PySem.boot_len (pa_cons (pv 2) pa_nil)) pa_nil)) (pg_name (i := 6) sc_peaks.nd rfl (.inl rfl)) (pss_ct (ps_set (i := 7) sc_peaks.nd rfl (.inl rfl) (pe_ifExp (PW.pt (pw_and (pt_cmpR op_eq (pe_ix (ix_ltK (K := K) rfl) (pe_ix (ix_ltK (K := K) rfl) (pe_ix (ix_ltK (K := K) rfl) (pv 0) pe_int (fun _ _ => rfl)) (pv 6) (fun _ _ => rfl)) pe_int (fun _ _ => rfl)) (pv 4) (nomark _)) (pw_and1 (pt_cmpR op_eq (pe_ix (ix_ltK (K := K) rfl) (pe_ix (ix_ltK (K := K) rfl) (pe_ix (ix_ltK (K := K) rfl) (pv 0) pe_int (fun _ _ => rfl)) (pv 6) (fun _ _ => rfl)) pe_int (fun _ _ => rfl)) (pv 4) (nomark _))))) (pe_op op_add (pe_ix (ix_ltK (K := K) rfl) (pv 2) (pv 6) (fun _ _ => rfl)) (pe_ix (ix_ltK (K := K) rfl) (pe_ix (ix_ltK (K := K) rfl) (pe_ix (ix_ltK (K := K) rfl) (pv 0) pe_int (fun _ _ => rfl)) (pv 6) (fun _ _ => rfl)) pe_int (fun _ _ => rfl))) pe_int)) (pss_one (ps_asg (pe_callB (call_max3 rfl) (by rfl) T.z_max (by decide +kernel) (pa_cons (pe_ix (ix_ltK (K := K) rfl) (pv 3) (pv 6) (fun _ _ => rfl)) (pa_cons (pe_ix (ix_ltK (K := K) rfl) (pv 5) (pv 6) (fun _ _ => rfl)) (pa_cons (pv 7) pa_nil)))) (pg_sub (pv 3) (pv 6) set_list))))) (pss_one (ps_set (i := 2) sc_peaks.nd rfl (.inl rfl) (pv 5)))))) (pss_one (ps_ret (pe_callTy (call_tupleK (K := K) rfl) (by rfl) T.z_tuple (by decide +kernel) (pa_cons (pv 3) pa_nil)))))), ?_⟩
  tm_at "s"
  refine ⟨_, n, m, Pi, pa, ad, rfl, hF, by omega, fun sa H1 e1 hsa => ?_⟩
  have F1 := hF.ts (Same.ts e1)
  tm_at "s"
  refine ⟨_, n, m, Pi, pa, ad, rfl, F1, by omega, fun s2 H2 e2 hs2 => ?_⟩
  have F2 := F1.ts (Same.ts e2)
  have e12 := Same.trans e1 e2
  have hsa2 := e2 _ _ hsa
  refine ⟨_, _, rfl, .inr (SqT.of hs2), fun fa nfa => ?_⟩
  tm_at "s"
  have e3 := Same.new (o := .lst (itab m fun k => (Pi k).start)) e12 nfa
  have nf0 : H fa = none := Same.free e12 nfa
  refine ⟨⟨_, SqT.of (e3 _ _ hw)⟩, ?_⟩
  refine for_tup (K := K) (a := wa) (xs := ws.map V.int) (fun i σ H3 => ∃ (x4 x5 x6 x7 : Option V) (sa : Addr) (ss fs : Nat → Int), σ = [some (.ref f), some (.ref wa), some (.ref sa), some (.ref fa), x4, x5, x6, x7] ∧ Same H H3 ∧ H3 sa = some (.tup (itab m ss)) ∧ H3 fa = some (.lst (itab m fs)) ∧ ∀ k, k < m → ss k ≤ 1000 + 8 * (i : Int) ∧ (Pi k).start ≤ fs k ∧ fs k ≤ 1000 + 8 * (i : Int))
    ⟨none, none, none, none, sa, _, _, rfl, e3, keep_new nfa hsa2, upd_same, fun k hk => ?_⟩ ?_ ?_ ?_
  · have o := hO.pipe k hk
    have o1 := o.sta1
    have o0 := o.sta0
    exact ⟨by omega, by omega, by omega⟩
  · rintro i σ H3 hi ⟨_, _, _, _, _, _, _, rfl, e, _⟩
    exact SqT.of (e _ _ hw)
  · clear hsa2 hsa e3 e12 nfa hs2 F2 e2 F1 e1 sa
    rintro i x σ H3 hx ⟨x4, x5, x6, x7, sa, ss, fs, rfl, e3, hsa, hfa, hb⟩
    rw [List.getElem?_map] at hx
    cases hwi : ws[i]? with
    | none =>
      rw [hwi] at hx
      cases hx
    | some box =>
    rw [hwi] at hx
    obtain rfl : V.int box = x := Option.some.inj hx
    have F3 := hF.ts (Same.ts e3)
    tm_at "s"
    refine ⟨_, _, _, n, m, Pi, ss, pa, ad, rfl, F3, hsa, by omega, fun ta H4 e4 hta => ?_⟩
    have e34 := Same.trans e3 e4
    have hsa4 := e4 _ _ hsa
    have hfa4 := e4 _ _ hfa
    have F4 := F3.ts (Same.ts e4)
    tm_at "s"
    tm_at "rg"
    refine for_rng (n := m) (fun j σ H5 => ∃ (x6 x7 : Option V) (fs : Nat → Int), σ = [some (.ref f), some (.ref wa), some (.ref sa), some (.ref fa), some (.int box), some (.ref ta), x6, x7] ∧ Same H H5 ∧ FlowAt H5 f n m Pi pa ad ∧ H5 sa = some (.tup (itab m ss)) ∧ H5 ta = some (.tup (itab m (nextM Pi ss box))) ∧ H5 fa = some (.lst (itab m fs)) ∧ ∀ k, k < m → (Pi k).start ≤ fs k ∧ fs k ≤ 1000 + 8 * ((i + 1 : Nat) : Int))
      ⟨_, _, fs, rfl, e34, F4, hsa4, hta, hfa4, fun k hk => by have := hb k hk; omega⟩ ?_ ?_
    · clear hfa hfa4 e34 hta e4 hsa4 F4 e3 hsa F3
      rintro j σ H5 hj ⟨x6, x7, fs, rfl, e5, F5, hsa, hta, hfa, hc⟩
      have o := hO.pipe j hj
      have o1 := o.giv1
      have o2 := o.giv0
      have o3 := o.eat0
      have hbj := hb j hj
      have hcj := hc j hj
      tm_at "s"
      refine ⟨fun σ H6 => ∃ v : Int, H6 = H5 ∧ σ = [some (.ref f), some (.ref wa), some (.ref sa), some (.ref fa), some (.int box), some (.ref ta), some (.int j), some (.int v)] ∧ v ≤ 1000 + 8 * ((i + 1 : Nat) : Int), ?_, ?_⟩
      · tm_at "s"
        refine ite_eqi (fun c => ?_) (fun c => ?_)
        · tm_at "s"
          refine ite_eqi (fun c => ?_) (fun c => ?_)
          · tm_at "s"
            exact ⟨_, rfl, rfl, by omega⟩
          · tm_at "s"
            exact ⟨_, rfl, rfl, by omega⟩
        · tm_at "s"
          exact ⟨_, rfl, rfl, by omega⟩
      · rintro σ H6 ⟨v, rfl, rfl, hv⟩
        tm_at "s"
        intro mx hm1 hm2 hm3 hm4
        tm_at "s"
        tm_at "set"
        rw [itab_set]
        have hnx : nextM Pi ss box j ≤ ss j + (Pi j).give := by
          unfold nextM
          split <;> split <;> omega
        have nfa := ne_of hfa hsa (by intro z; cases z)
        have nfa2 := ne_of hfa hta (by intro z; cases z)
        refine ⟨_, _, _, rfl, Same.mut e5 nf0, hF.ts (Same.ts (Same.mut e5 nf0)), keep_ne nfa.symm hsa, keep_ne nfa2.symm hta, upd_same, fun k hk => ?_⟩
        show (Pi k).start ≤ (if k = j then mx else fs k) ∧ (if k = j then mx else fs k) ≤ _
        by_cases e : k = j
        · subst e
          rw [if_pos rfl]
          omega
        · rw [if_neg e]
          exact hc k hk
    · rintro σ H5 ⟨x6, x7, fs, rfl, e5, F5, hsa, hta, hfa, hc⟩
      tm_at "s"
      refine ⟨_, _, _, _, ta, _, fs, rfl, e5, hta, hfa, fun k hk => ?_⟩
      have o := hO.pipe k hk
      have o1 := o.giv1
      have o2 := o.giv0
      have o3 := o.eat0
      have hbj := hb k hk
      have hcj := hc k hk
      have hnx : nextM Pi ss box k ≤ ss k + (Pi k).give := by
        unfold nextM
        split <;> split <;> omega
      exact ⟨by omega, hcj⟩
  · rintro σ H3 ⟨x4, x5, x6, x7, sa, ss, fs, rfl, e3, hsa, hfa, hb⟩
    rw [List.length_map] at hb
    tm_at "s"
    refine ⟨_, _, rfl, .inl ⟨SqL.of hfa, fun p np => ?_⟩⟩
    exact q p fs _ (Same.new e3 np) upd_same fun k hk => by have := hb k hk; omega
theorem ok_room (D : Df K mg "_law_room" s_room p_room) (T : Tx mg) (C_taken : Ca P w K mg base CX0 1 "_law_taken" p_taken (spTaken K)) : Ca P w K mg base CX0 2 "_law_room" p_room (spRoom K) := by
  obtain ⟨f_taken, fd_taken, G_taken, m_taken, k_taken, b_taken⟩ := C_taken
  obtain ⟨f0, fd0, F0, gf0, bf0⟩ := D
  refine ⟨f0, fd0, ?_, gf0, F0.kp, bf0⟩
  refine F0.ok sc_room (fun vs H Q E h => ?_) (fun cdv A outer s0 H vs Q E hr h => ?_)
  · obtain ⟨row, sc, f, n, m, Pi, pa, ad, rfl, _⟩ := h
    rfl
  obtain ⟨row, sc, f, n, m, Pi, pa, ad, rfl, hR, hF, hO, q⟩ := h
  have hm6 := hO.m6
  refine ⟨_, (pss_one (ps_ret (pe_callTy (call_tupleK (K := K) rfl) (by rfl) T.z_tuple (by decide +kernel) (pa_cons (pe_lc (own := [("_law_pipe", 3)]) (g := gName 3) (by rfl) sc_room.nd (pi_tupK (K := K) rfl (pe_ix (ix_ltK (K := K) rfl) (pv 1) pe_int (fun _ _ => rfl))) (blkOk_by (own := [("_law_pipe", 3)]) (N := n_room) (sc := defScope s_room) (by decide +kernel)) (fun _ _ _ _ _ => pg_name (i := 3) sc_room.nd rfl (Or.inl rfl)) (fun _ _ _ _ _ => pts_nil) (fun _ _ _ _ _ => (pe_op op_add (pe_ix (ix_ltK (K := K) rfl) (pv 3) pe_int (fun _ _ => rfl)) (pe_call G_taken (hr.mono (by decide)) (by rfl) m_taken k_taken b_taken .nil pass0 (pa_cons (pv 0) (pa_cons (pe_op op_add (pv 2) pe_int) pa_nil)))))) pa_nil)))), ?_⟩
  tm_at "s"
  refine ⟨⟨_, SqT.of hF.all⟩, fun D nD => ?_⟩
  have e1 := same_new (o := .lst []) nD
  have Dr := hR.ne nD
  refine lc_tup (K := K) (a := pa) (xs := tab m fun k => .ref (ad k)) (fun j H2 => Kp row H H2 ∧ RowAt K H2 row sc ∧ ∃ rs : Nat → Int, H2 D = some (.lst (itab j rs)) ∧ ∀ k, k < j → (Pi k).start ≤ rs k ∧ rs k ≤ 3000) ⟨Same.kp e1, hR.same e1, fun _ => 0, upd_same, fun k hk => absurd hk (Nat.not_lt_zero k)⟩ ?_ ?_ ?_
  · rintro j H2 hj ⟨k2, R2, _⟩
    exact SqT.of (hR.ts k2 _ _ hF.all)
  · rintro j x H2 hx ⟨k2, R2, rs, h2, hr2⟩
    obtain ⟨hj, rfl⟩ := tab_some hx
    have F2 := hF.ts (hR.ts k2)
    have o := hO.pipe j hj
    have o0 := o.sta0
    have o1 := o.sta1
    refine ⟨rfl, ?_⟩
    tm_at "s"
    refine ⟨_, _, _, rfl, R2, by first | decide | omega, by first | decide | omega, fun v H_v v0 v1 k_v R_v => ?_⟩
    tm_at "s"
    refine ⟨_, k_v _ _ Dr h2, small_lt (by rw [itab_len]; omega), Kp.mut (Kp.trans k2 k_v) nD, R_v.mut hR nD, ext rs j ((Pi j).start + v), ?_, fun k hk => ?_⟩
    · rw [upd_same]
      exact congrArg (fun z => some (HO.lst z)) (tab_ext V.int)
    · by_cases e : k = j
      · subst e
        rw [ext_same]
        omega
      · rw [ext_ne e]
        exact hr2 k (by omega)
  · rintro H2 ⟨k2, R2, rs, h2, hr2⟩
    rw [tab_len] at h2 hr2
    refine ⟨_, _, rfl, .inl ⟨SqL.of h2, fun p np => ?_⟩⟩
    have e3 := same_new (o := .tup (itab m rs)) np
    exact q p rs _ (Kp.same k2 e3) (R2.same e3) upd_same hr2
end
end Rf
namespace Rf
open PySem PySem.Spec L2
local macro_rules | `(tactic| tm_at "hp") => `(tactic| (first | assumption | exact FlowAt.top (by assumption) | exact FlowAt.all (by assumption) | exact FlowAt.pipe (by assumption) _ (by assumption) | exact upd_same | (refine keep_new (by assumption) ?_; tm_at "hp")))
local macro_rules | `(tactic| tm_at "sq") => `(tactic| (first | exact .inl (by assumption) | exact .inr (by assumption) | exact .inr (SqT.of (by tm_at "hp")) | exact .inl (SqL.of (by tm_at "hp"))))
local macro_rules | `(tactic| tm_at "at") => `(tactic| (first | rfl | exact itab_at (by assumption) | exact tab_at (by assumption) | (refine itab_atI ?_ ?_ <;> assumption)))
local macro_rules | `(tactic| tm_at "ix") => `(tactic| (refine' ⟨_, _, _, _, rfl, rfl, ?hs, ?ha, ?_⟩; (case hs => tm_at "sq"); (case ha => tm_at "at")))
local macro_rules | `(tactic| tm_at "len") => `(tactic| (refine' ⟨_, _, rfl, ?hs, ?_⟩; (case hs => tm_at "sq"); (first | rw [itab_len] | rw [tab_len] | rw [List.length_map] | skip)))
local macro_rules | `(tactic| tm_at "rg") => `(tactic| (refine ⟨rg_lo, rg_hi (by omega), ?_⟩))
local macro_rules | `(tactic| tm_at "rgi") => `(tactic| (refine ⟨rgi_lo (by omega), rgi_hi (by omega), ?_⟩))
local macro_rules | `(tactic| tm_at "ut") => `(tactic| (refine' ⟨_, _, rfl, ?hs, ?hl, ?_⟩; (case hs => exact SqT.of (by tm_at "hp")); (case hl => rfl)))
local macro_rules | `(tactic| tm_at "s") => `(tactic| repeat (first | refine ⟨_, rfl, ?_⟩ | refine ⟨_, _, rfl, rfl, ?_⟩ | tm_at "ix" | tm_at "len" | tm_at "ut" | refine ⟨rfl, ?_⟩ | refine ⟨_, _, rfl, ?_⟩ | refine ⟨_, _, _, rfl, ?_⟩ | refine Or.inl ⟨_, rfl, ?_⟩ | refine ⟨Or.inl ⟨rfl, _, SqL.of (by tm_at "hp")⟩, ?_⟩))
local macro_rules | `(tactic| tm_at "tl") => `(tactic| (refine' ⟨_, _, rfl, Or.inl ⟨SqL.of ?hs, ?_⟩⟩; (case hs => tm_at "hp")))
local macro_rules | `(tactic| tm_at "set") => `(tactic| (refine' ⟨_, _, _, _, rfl, rfl, ?hs, ?hj, ?_⟩; (case hs => tm_at "hp"); (case hj => (first | rfl | exact tab_ixN (by assumption)))))
local macro_rules | `(tactic| tm_at "sz") => `(tactic| (first | exact small_ok (Nat.le_of_ble_eq_true rfl) | exact Nat.le_of_ble_eq_true rfl))
local macro_rules | `(tactic| tm_at "acc") => `(tactic| (refine' ⟨_, ?ha, ?hz, ?_⟩; (case ha => tm_at "hp"); (case hz => (first | rw [itab_len] | rw [tab_len] | rw [List.length_map] | skip); exact small_lt (by omega))))
local macro_rules | `(tactic| tm_at "ap") => `(tactic| (refine' ⟨_, _, _, rfl, rfl, ?hs, ?hz, ?_⟩; (case hs => tm_at "hp")))
local macro_rules | `(tactic| tm_at "sm") => `(tactic| (first | assumption | exact Same.refl _ | (refine Same.new ?_ (by assumption); tm_at "sm") | (refine Same.mut ?_ (by assumption); tm_at "sm")))
section
variable {P : Program} {w : World} {K : PySem.W.Frag} {mg : Str → Option Value} {base : Heap}

theorem full_eq {m : Nat} {P : Nat → Pipe} {s rm : Nat → Int} {box : Int} [Decidable (fl m (fun k => decide ((P k).one = box) && decide (rm k < s k + (P k).give)) (fun k => (k : Int)) = [])] :
    (!decide (fl m (fun k => decide ((P k).one = box) && decide (rm k < s k + (P k).give)) (fun k => (k : Int)) = [])) = fullM m P s rm box := by
  rw [fl_nilD]
  unfold fullM
  rw [List.not_all_eq_any_not]
  exact congrArg (fun z => (List.range m).any z) (funext fun k => Bool.not_not _)
theorem ok_cells (D : Df K mg "_law_cells" s_cells p_cells) (T : Tx mg) (C_some : Ca P w K mg base CX0 1 "_law_some" p_some spSome) (C_can : Ca P w K mg base CX0 1 "_law_can" p_can spCan) (C_next : Ca P w K mg base CX0 1 "_law_next" p_next spNext) : Ca P w K mg base CX0 2 "_law_cells" p_cells spCells := by
  obtain ⟨f_some, fd_some, G_some, m_some, k_some, b_some⟩ := C_some
  obtain ⟨f_can, fd_can, G_can, m_can, k_can, b_can⟩ := C_can
  obtain ⟨f_next, fd_next, G_next, m_next, k_next, b_next⟩ := C_next
  obtain ⟨f0, fd0, F0, gf0, bf0⟩ := D
  refine ⟨f0, fd0, ?_, gf0, F0.kp, bf0⟩
  refine F0.ok sc_cells (fun vs H Q E h => ?_) (fun cdv A outer s0 H vs Q E hr h => ?_)
  · obtain ⟨f, wa, ra, n, m, Pi, ws, rm, pa, ad, rfl, _⟩ := h
    rfl
  obtain ⟨f, wa, ra, n, m, Pi, ws, rm, pa, ad, rfl, hF, hO, hw, hwl, hra, hrm, q⟩ := h
  have hn5 := hO.n5
  have hm6 := hO.m6
  refine ⟨_, (pss_cons (ps_asg (pe_tup (pa_cons (pe_call G_some (hr.mono (by decide)) (by rfl) m_some k_some b_some .nil pass0 (pa_cons (pv 0) pa_nil)) (pa_cons (pe_op op_rep (pe_lst (pa_cons pe_int pa_nil)) (pe_callB (call_lenK (K := K) rfl) (by rfl) T.z_len PySem.boot_len (pa_cons (pv 2) pa_nil))) (pa_cons (pe_lc (own := [("_law_pipe", 11)]) (g := gName 11) (by rfl) sc_cells.nd (pi_tupK (K := K) rfl (pe_ix (ix_ltK (K := K) rfl) (pv 0) pe_int (fun _ _ => rfl))) (blkOk_by (own := [("_law_pipe", 11)]) (N := n_cells) (sc := defScope s_cells) (by decide +kernel)) (fun _ _ _ _ _ => pg_name (i := 11) sc_cells.nd rfl (Or.inl rfl)) (fun _ _ _ _ _ => pts_nil) (fun _ _ _ _ _ => (pe_ix (ix_ltK (K := K) rfl) (pv 11) pe_int (fun _ _ => rfl)))) (pa_cons (pe_lst pa_nil) pa_nil))))) (pg_tupK (K := K) rfl (by rfl) (pgs_cons (pg_name (i := 3) sc_cells.nd rfl (.inr rfl)) (pgs_cons (pg_name (i := 4) sc_cells.nd rfl (.inr rfl)) (pgs_cons (pg_name (i := 5) sc_cells.nd rfl (.inr rfl)) (pgs_cons (pg_name (i := 6) sc_cells.nd rfl (.inl rfl)) pgs_nil)))))) (pss_cons (ps_for PassesOwn.never rfl (pi_tupK (K := K) rfl (pv 1)) (pg_name (i := 7) sc_cells.nd rfl (.inr rfl)) (pss_cons (ps_setLc (i := 8) (own := [("_law_k", 12)]) (g := gName 12) (by rfl) sc_cells.nd rfl rfl (sw_true rfl rfl rfl (by decide +kernel)) (pi_range1 (by rfl) T.z_range (pa_cons (pe_callB (call_lenK (K := K) rfl) (by rfl) T.z_len PySem.boot_len (pa_cons (pv 2) pa_nil)) pa_nil)) (blkOk_by (own := [("_law_k", 12)]) (N := n_cells) (sc := defScope s_cells) (by decide +kernel)) (fun _ _ _ _ _ => pg_name (i := 12) sc_cells.nd rfl (Or.inl rfl)) (fun _ _ _ _ _ => pts_one (PW.pt (pw_and (pt_cmpR op_eq (pe_ix (ix_ltK (K := K) rfl) (pe_ix (ix_ltK (K := K) rfl) (pe_ix (ix_ltK (K := K) rfl) (pv 0) pe_int (fun _ _ => rfl)) (pv 12) (fun _ _ => rfl)) pe_int (fun _ _ => rfl)) (pv 7) (nomark _)) (pw_and1 (pt_cmpR op_gt (pe_op op_add (pe_ix (ix_ltK (K := K) rfl) (pv 3) (pv 12) (fun _ _ => rfl)) (pe_ix (ix_ltK (K := K) rfl) (pe_ix (ix_ltK (K := K) rfl) (pe_ix (ix_ltK (K := K) rfl) (pv 0) pe_int (fun _ _ => rfl)) (pv 12) (fun _ _ => rfl)) pe_int (fun _ _ => rfl))) (pe_ix (ix_ltK (K := K) rfl) (pv 2) (pv 12) (fun _ _ => rfl)) (nomark _)))))) (fun _ _ _ _ _ => (pv 12))) (pss_cons (ps_if (PW.pt (pw_or (pt_cmpR op_ge (pv 7) (pe_ix (ix_ltK (K := K) rfl) (pv 0) pe_int (fun _ _ => rfl)) (nomark _)) (pw_or (pt_cmpR (op_neK (K := K) rfl hr.units) (pv 8) (pe_lst pa_nil) (nomark _)) (pw_or1 (pt_not (pt_val (pe_call G_can (hr.mono (by decide)) (by rfl) m_can k_can b_can .nil pass0 (pa_cons (pv 0) (pa_cons (pv 3) (pa_cons (pv 7) pa_nil)))))))))) (pss_one (ps_ret (pv 6))) pss_nil) (pss_cons (ps_set (i := 9) sc_cells.nd rfl (.inl rfl) (pe_callTy (call_tupleK (K := K) rfl) (by rfl) T.z_tuple (by decide +kernel) (pa_cons (pe_lc (own := [("_law_k", 12)]) (g := gName 12) (by rfl) sc_cells.nd (pi_range1 (by rfl) T.z_range (pa_cons (pe_callB (call_lenK (K := K) rfl) (by rfl) T.z_len PySem.boot_len (pa_cons (pv 2) pa_nil)) pa_nil)) (blkOk_by (own := [("_law_k", 12)]) (N := n_cells) (sc := defScope s_cells) (by decide +kernel)) (fun _ _ _ _ _ => pg_name (i := 12) sc_cells.nd rfl (Or.inl rfl)) (fun _ _ _ _ _ => pts_one (pt_cmpR op_eq (pe_ix (ix_ltK (K := K) rfl) (pe_ix (ix_ltK (K := K) rfl) (pe_ix (ix_ltK (K := K) rfl) (pv 0) pe_int (fun _ _ => rfl)) (pv 12) (fun _ _ => rfl)) pe_int (fun _ _ => rfl)) (pv 7) (nomark _))) (fun _ _ _ _ _ => (pe_tup (pa_cons (pv 12) (pa_cons (pe_op op_mod (pe_ix (ix_ltK (K := K) rfl) (pv 4) (pv 12) (fun _ _ => rfl)) (pe_ix (ix_ltK (K := K) rfl) (pv 2) (pv 12) (fun _ _ => rfl))) pa_nil))))) pa_nil))) (pss_cons (ps_set (i := 10) sc_cells.nd rfl (.inl rfl) (pe_callTy (call_tupleK (K := K) rfl) (by rfl) T.z_tuple (by decide +kernel) (pa_cons (pe_lc (own := [("_law_k", 12)]) (g := gName 12) (by rfl) sc_cells.nd (pi_range1 (by rfl) T.z_range (pa_cons (pe_callB (call_lenK (K := K) rfl) (by rfl) T.z_len PySem.boot_len (pa_cons (pv 2) pa_nil)) pa_nil)) (blkOk_by (own := [("_law_k", 12)]) (N := n_cells) (sc := defScope s_cells) (by decide +kernel)) (fun _ _ _ _ _ => pg_name (i := 12) sc_cells.nd rfl (Or.inl rfl)) (fun _ _ _ _ _ => pts_one (pt_cmpR op_eq (pe_ix (ix_ltK (K := K) rfl) (pe_ix (ix_ltK (K := K) rfl) (pe_ix (ix_ltK (K := K) rfl) (pv 0) pe_int (fun _ _ => rfl)) (pv 12) (fun _ _ => rfl)) pe_int (fun _ _ => rfl)) (pv 7) (nomark _))) (fun _ _ _ _ _ => (pe_tup (pa_cons (pv 12) (pa_cons (pe_op op_mod (pe_ix (ix_ltK (K := K) rfl) (pv 5) (pv 12) (fun _ _ => rfl)) (pe_ix (ix_ltK (K := K) rfl) (pv 2) (pv 12) (fun _ _ => rfl))) pa_nil))))) pa_nil))) (pss_cons (ps_set (i := 4) sc_cells.nd rfl (.inr rfl) (pe_lc (own := [("_law_k", 12)]) (g := gName 12) (by rfl) sc_cells.nd (pi_range1 (by rfl) T.z_range (pa_cons (pe_callB (call_lenK (K := K) rfl) (by rfl) T.z_len PySem.boot_len (pa_cons (pv 2) pa_nil)) pa_nil)) (blkOk_by (own := [("_law_k", 12)]) (N := n_cells) (sc := defScope s_cells) (by decide +kernel)) (fun _ _ _ _ _ => pg_name (i := 12) sc_cells.nd rfl (Or.inl rfl)) (fun _ _ _ _ _ => pts_nil) (fun _ _ _ _ _ => (pe_op op_add (pe_ix (ix_ltK (K := K) rfl) (pv 4) (pv 12) (fun _ _ => rfl)) (pe_ifExp (pt_cmpR op_eq (pe_ix (ix_ltK (K := K) rfl) (pe_ix (ix_ltK (K := K) rfl) (pe_ix (ix_ltK (K := K) rfl) (pv 0) pe_int (fun _ _ => rfl)) (pv 12) (fun _ _ => rfl)) pe_int (fun _ _ => rfl)) (pv 7) (nomark _)) (pe_ix (ix_ltK (K := K) rfl) (pe_ix (ix_ltK (K := K) rfl) (pe_ix (ix_ltK (K := K) rfl) (pv 0) pe_int (fun _ _ => rfl)) (pv 12) (fun _ _ => rfl)) pe_int (fun _ _ => rfl)) pe_int))))) (pss_cons (ps_set (i := 5) sc_cells.nd rfl (.inr rfl) (pe_lc (own := [("_law_k", 12)]) (g := gName 12) (by rfl) sc_cells.nd (pi_range1 (by rfl) T.z_range (pa_cons (pe_callB (call_lenK (K := K) rfl) (by rfl) T.z_len PySem.boot_len (pa_cons (pv 2) pa_nil)) pa_nil)) (blkOk_by (own := [("_law_k", 12)]) (N := n_cells) (sc := defScope s_cells) (by decide +kernel)) (fun _ _ _ _ _ => pg_name (i := 12) sc_cells.nd rfl (Or.inl rfl)) (fun _ _ _ _ _ => pts_nil) (fun _ _ _ _ _ => (pe_op op_add (pe_ix (ix_ltK (K := K) rfl) (pv 5) (pv 12) (fun _ _ => rfl)) (pe_ifExp (pt_cmpR op_eq (pe_ix (ix_ltK (K := K) rfl) (pe_ix (ix_ltK (K := K) rfl) (pe_ix (ix_ltK (K := K) rfl) (pv 0) pe_int (fun _ _ => rfl)) (pv 12) (fun _ _ => rfl)) pe_int (fun _ _ => rfl)) (pv 7) (nomark _)) (pe_ix (ix_ltK (K := K) rfl) (pe_ix (ix_ltK (K := K) rfl) (pe_ix (ix_ltK (K := K) rfl) (pv 0) pe_int (fun _ _ => rfl)) (pv 12) (fun _ _ => rfl)) pe_int (fun _ _ => rfl)) pe_int))))) (pss_one (ps_asg (pe_tup (pa_cons (pe_call G_next (hr.mono (by decide)) (by rfl) m_next k_next b_next .nil pass0 (pa_cons (pv 0) (pa_cons (pv 3) (pa_cons (pv 7) pa_nil)))) (pa_cons (pe_op op_cat (pv 6) (pe_lst (pa_cons (pe_tup (pa_cons (pv 7) (pa_cons (pv 9) (pa_cons (pv 10) pa_nil)))) pa_nil))) pa_nil))) (pg_tupK (K := K) rfl (by rfl) (pgs_cons (pg_name (i := 3) sc_cells.nd rfl (.inr rfl)) (pgs_cons (pg_name (i := 6) sc_cells.nd rfl (.inl rfl)) pgs_nil)))))))))))) (pss_one (ps_ret (pv 6))))), ?_⟩
  tm_at "s"
  refine ⟨_, n, m, Pi, pa, ad, rfl, hF, by omega, fun sa H1 e1 hsa => ?_⟩
  have F1 := hF.ts (Same.ts e1)
  have hra1 := e1 _ _ hra
  tm_at "s"
  refine ⟨by tm_at "sz", fun z nz => ?_⟩
  have ez := same_new (o := .lst [.int 0]) nz
  have hraz := ez _ _ hra1
  tm_at "s"
  refine ⟨z, _, _, rfl, rfl, upd_same, by omega, by omega, small_ok (by show 1 * m ≤ _; omega), ?_⟩
  rw [Int.toNat_natCast, rep_itab]
  refine fun ea nea => ?_
  have e2 := Same.new (o := .lst (itab m fun _ => 0)) (Same.trans e1 ez) nea
  have hsa2 := (Same.new (o := .lst (itab m fun _ => 0)) ez nea) _ _ hsa
  have hea2 : upd (upd H1 z (.lst [.int 0])) ea (.lst (itab m fun _ => 0)) ea = some (.lst (itab m fun _ => 0)) := upd_same
  generalize upd (upd H1 z (.lst [.int 0])) ea (.lst (itab m fun _ => 0)) = H2 at e2 hsa2 hea2 ⊢
  clear nea hraz ez nz hra1 F1 hsa e1
  have F2 := hF.ts (Same.ts e2)
  tm_at "s"
  refine ⟨⟨_, SqT.of F2.all⟩, fun la nla => ?_⟩
  refine lc_tup (K := K) (a := pa) (xs := tab m fun k => .ref (ad k)) (fun j H3 => Same H2 H3 ∧ H3 la = some (.lst (itab j fun k => (Pi k).start))) ⟨same_new nla, upd_same⟩ ?_ ?_ ?_
  · rintro j H3 hj ⟨e3, h3⟩
    exact SqT.of (e3 _ _ F2.all)
  · rintro j x H3 hx ⟨e3, h3⟩
    obtain ⟨hj, rfl⟩ := tab_some hx
    have F3 := F2.ts (Same.ts e3)
    refine ⟨rfl, ?_⟩
    tm_at "s"
    refine ⟨_, h3, small_lt (by rw [itab_len]; omega), Same.mut e3 nla, ?_⟩
    rw [upd_same, itab_succ]
  rintro H3 ⟨e3, hla⟩
  rw [tab_len] at hla
  refine ⟨by tm_at "sz", fun fa nfa => ?_⟩
  refine ⟨by tm_at "sz", fun t nt => ?_⟩
  have e4 := Same.new (o := .tup [.ref sa, .ref ea, .ref la, .ref fa]) (Same.new (o := .lst []) (Same.trans e2 e3) nfa) nt
  have e34 := Same.new (o := .tup [.ref sa, .ref ea, .ref la, .ref fa]) (same_new (o := .lst []) nfa) nt
  have hsa4 := e34 _ _ (e3 _ _ hsa2)
  have hea4 := e34 _ _ (e3 _ _ hea2)
  have hla4 := e34 _ _ hla
  have hfa4 : upd (upd H3 fa (.lst [])) t (.tup [.ref sa, .ref ea, .ref la, .ref fa]) fa = some (.lst []) := keep_new nt upd_same
  have ht4 : upd (upd H3 fa (.lst [])) t (.tup [.ref sa, .ref ea, .ref la, .ref fa]) t = some (.tup [.ref sa, .ref ea, .ref la, .ref fa]) := upd_same
  generalize upd (upd H3 fa (.lst [])) t (.tup [.ref sa, .ref ea, .ref la, .ref fa]) = H4 at e4 hsa4 hea4 hla4 hfa4 ht4 ⊢
  clear e34 nt nfa hla e3 nla F2 hea2 hsa2 e2
  tm_at "s"
  refine ⟨⟨_, SqT.of (e4 _ _ hw)⟩, ?_⟩
  refine for_tup (K := K) (a := wa) (xs := ws.map V.int) (fun i σ H3 => ∃ (x7 x8 x9 x10 : Option V) (sa ea la fa : Addr) (s e l : Nat → Int) (xs : List V) (ts : List Trip), σ = [some (.ref f), some (.ref wa), some (.ref ra), some (.ref sa), some (.ref ea), some (.ref la), some (.ref fa), x7, x8, x9, x10, none, none] ∧ Same H H3 ∧ H3 sa = some (.tup (itab m s)) ∧ H3 ea = some (.lst (itab m e)) ∧ H3 la = some (.lst (itab m l)) ∧ H3 fa = some (.lst xs) ∧ TripsIn H3 xs ts ∧ ts.length ≤ i ∧ ts ++ cellsM n m Pi rm s e l (ws.drop i) = cellsM n m Pi rm (fun k => (Pi k).start) (fun _ => 0) (fun k => (Pi k).start) ws ∧ ∀ k, k < m → 0 ≤ s k ∧ s k ≤ rm k)
    ⟨none, none, none, none, sa, ea, la, fa, _, _, _, [], [], rfl, e4, hsa4, hea4, hla4, hfa4, trips_nil, Nat.le_refl _, rfl, fun k hk => ⟨(hO.pipe k hk).sta0, (hrm k hk).1⟩⟩ ?_ ?_ ?_
  · rintro i σ H3 hi ⟨_, _, _, _, _, _, _, _, _, _, _, _, _, rfl, e, _⟩
    exact SqT.of (e _ _ hw)
  · clear hsa4 hea4 hla4 hfa4 ht4 e4 sa ea la fa t
    rintro i x σ H4 hx ⟨x7, x8, x9, x10, sa, ea, la, fa, s, e, l, xs, ts, rfl, e4, hsa, hea, hla, hfa, hts, htl, heq, hb⟩
    rw [List.getElem?_map] at hx
    cases hwi : ws[i]? with
    | none =>
      rw [hwi] at hx
      cases hx
    | some box =>
    rw [hwi] at hx
    obtain rfl : V.int box = x := Option.some.inj hx
    obtain ⟨hil, hwi'⟩ := List.getElem?_eq_some_iff.mp hwi
    rw [List.drop_eq_getElem_cons hil, hwi', cellsM] at heq
    have F4 := hF.ts (Same.ts e4)
    have hra4 := e4 _ _ hra
    tm_at "s"
    tm_at "rg"
    refine fun D nD => ?_
    refine comp_rng (n := m) (fun i H5 => Same H4 H5 ∧ H5 D = some (.lst ((fl i (fun k => decide ((Pi k).one = box) && decide (rm k < s k + (Pi k).give)) fun k => (k : Int)).map V.int))) ⟨same_new nD, upd_same⟩ ?_ ?_
    · rintro i H5 hi ⟨e5, h5⟩
      have F5 := F4.ts (Same.ts e5)
      have hra5 := e5 _ _ hra4
      have hsa5 := e5 _ _ hsa
      have hz : Unit → ((fl i (fun k => decide ((Pi k).one = box) && decide (rm k < s k + (Pi k).give)) fun k => (k : Int)).map V.int).length < sizeLine := fun _ => small_lt (by rw [List.length_map]; have := fl_len (m := i) (pr := fun k => decide ((Pi k).one = box) && decide (rm k < s k + (Pi k).give)) (g := fun k => (k : Int)); omega)
      refine ⟨rfl, ?_⟩
      tm_at "s"
      refine ite_eqi (fun c => ?_) (fun c => ?_)
      · tm_at "s"
        refine ite_dec (fun c2 => ?_) (fun c2 => ?_)
        · have c2' : rm i < s i + (Pi i).give := c2
          tm_at "s"
          refine ⟨_, h5, hz (), Same.mut e5 nD, ?_⟩
          rw [upd_same, fl_yes (by simp [c, c2']), List.map_append]
          rfl
        · have c2' : ¬ rm i < s i + (Pi i).give := c2
          refine ⟨e5, ?_⟩
          rw [fl_no (by simp [c2'])]
          exact h5
      · refine ⟨e5, ?_⟩
        rw [fl_no (by simp [c])]
        exact h5
    rintro H5 ⟨e5, h5⟩
    have stop : goesM n m Pi rm s box = false → ∀ H6, Same H5 H6 → Q (.ref fa) H6 := fun hg H6 e6 => by
      rw [if_neg (by rw [hg]; exact Bool.false_ne_true), List.append_nil] at heq
      subst heq
      exact q fa xs H6 (Same.trans e4 (Same.trans e5 e6)) (e6 _ _ (e5 _ _ hfa)) (hts.ts (Same.ts (Same.trans e5 e6)))
    have F5 := F4.ts (Same.ts e5)
    tm_at "s"
    refine ite_dec (fun c1 => ?_) (fun c1 => ?_)
    · have c1' : ¬ box < n := Int.not_lt.mpr c1
      tm_at "s"
      exact stop (by unfold goesM; rw [decide_eq_false c1']; rfl) _ (Same.refl _)
    have c1' : box < n := Int.not_le.mp c1
    tm_at "s"
    refine ⟨by tm_at "sz", fun p np => ?_⟩
    have s6 := same_new (o := .lst []) np
    refine st_neL (ls := []) (keep_new np h5) upd_same ?_
    have ef : (!decide (fl m (fun k => decide ((Pi k).one = box) && decide (rm k < s k + (Pi k).give)) (fun k => (k : Int)) = [])) = fullM m Pi s rm box := full_eq
    rw [ef]
    have e6 := Same.trans e5 s6
    generalize upd H5 p (.lst []) = H6 at s6 e6 ⊢
    have F6 := F4.ts (Same.ts e6)
    cases hfull : fullM m Pi s rm box with
    | true =>
      tm_at "s"
      exact stop (by unfold goesM; rw [hfull, Bool.not_true, Bool.false_and, Bool.and_false]) _ s6
    | false =>
    have hsa6 := e6 _ _ hsa
    tm_at "s"
    refine ⟨_, _, _, n, m, Pi, s, pa, ad, rfl, F6, hsa6, by omega, fun H7 e7 => ?_⟩
    tm_at "s"
    cases hcan : canM m Pi s box with
    | false =>
      tm_at "s"
      exact stop (by unfold goesM; rw [hcan, Bool.and_false, Bool.and_false]) _ (Same.trans s6 e7)
    | true =>
    have hgo : goesM n m Pi rm s box = true := by
      unfold goesM
      rw [hcan, hfull, decide_eq_true c1']
      rfl
    rw [if_pos hgo] at heq
    have hcan' : ∀ k, k < m → (Pi k).other = box → (Pi k).eat ≤ s k := fun k hk e => by
      unfold canM at hcan
      have := List.all_eq_true.mp hcan k (List.mem_range.mpr hk)
      rw [decide_eq_true e, Bool.true_and] at this
      simpa using this
    have hfull' : ∀ k, k < m → (Pi k).one = box → s k + (Pi k).give ≤ rm k := fun k hk e => by
      unfold fullM at hfull
      have := List.any_eq_false.mp hfull k (List.mem_range.mpr hk)
      rw [decide_eq_true e, Bool.true_and] at this
      simpa using this
    have e47 := Same.trans e6 e7
    have hra7 := e47 _ _ hra4
    have hea7 := e47 _ _ hea
    have hla7 := e47 _ _ hla
    have hsa7 := e47 _ _ hsa
    have hfa7 := e47 _ _ hfa
    have hts7 := hts.ts (Same.ts e47)
    have e07 := Same.trans e4 e47
    clear hts hfa hsa hla hea hra4 hcan hfull hsa6 F6 e6 s6 np stop ef h5
    have hpD1 : ∀ k, k < m → (Pi k).other = box → 0 < rm k := fun k hk c => by
      have h1 := hcan' k hk c
      have h2 := (hO.pipe k hk).eat0
      have h3 := hb k hk
      omega
    have hpD2 : ∀ k, k < m → (Pi k).one = box → 0 < rm k := fun k hk c => by
      have h1 := hfull' k hk c
      have h2 := (hO.pipe k hk).giv0
      have h3 := hb k hk
      omega
    have T7 := Same.ts e47
    tm_at "s"
    tm_at "rg"
    refine fun D1 nD1 => ?_
    refine comp_rng (n := m) (fun i H5 => Same H7 H5 ∧ ∃ xs, H5 D1 = some (.lst xs) ∧ Ins (PairIs H5) xs (fl i (fun k => decide ((fun k => (Pi k).other) k = box)) fun k => (k, e k % rm k))) ⟨same_new nD1, [], upd_same, Ins.nil⟩ ?_ ?_
    · rintro j H5 hj ⟨e5, ys, h5, hys⟩
      have F5 := F4.ts (Ts.trans T7 (Same.ts e5))
      have hra5 := e5 _ _ hra7
      have hd5 := e5 _ _ hea7
      refine ⟨rfl, ?_⟩
      tm_at "s"
      refine ite_eqi (fun c => ?_) (fun c => ?_)
      · have hpos := hpD1 j hj c
        tm_at "s"
        refine ⟨hpos, ?_⟩
        tm_at "s"
        refine ⟨by tm_at "sz", fun p np => ?_⟩
        have ep := same_new (o := .tup [.int (j : Int), .int (e j % rm j)]) np
        have hD := ep _ _ h5
        have hyl := hys.len
        have hfl := fl_len (m := j) (pr := fun k => decide ((fun k => (Pi k).other) k = box)) (g := fun k => (k, e k % rm k))
        have nDp : p ≠ D1 := (ne_of_none h5 np).symm
        refine ⟨_, hD, small_lt (by omega), Same.mut (Same.trans e5 ep) nD1, _, upd_same, ?_⟩
        rw [fl_yes (by exact decide_eq_true c)]
        refine Ins.snoc ((pairs_ts hys (Same.ts ep)).imp fun a t q => ?_) ?_
        · exact keep_ne (ne_of q hD (by intro z; cases z)) q
        · exact keep_ne nDp upd_same
      · refine ⟨e5, ys, h5, ?_⟩
        rw [fl_no (by exact decide_eq_false c)]
        exact hys
    rintro H8 ⟨e8, gs, hgs, hgp⟩
    refine ⟨_, _, rfl, .inl ⟨SqL.of hgs, fun g ng => ?_⟩⟩
    have e8' := Same.new (o := .tup gs) e8 ng
    have hG : PairsAt (upd H8 g (.tup gs)) g (getsM m Pi e rm box) := pairs_at (pairs_ts hgp (Same.ts (same_new ng))) upd_same
    generalize upd H8 g (.tup gs) = Ha at e8' hG ⊢
    clear hgp ng hgs e8
    have hraa := e8' _ _ hra7
    have heaa := e8' _ _ hea7
    have hlaa := e8' _ _ hla7
    have Ta := Ts.trans T7 (Same.ts e8')
    tm_at "s"
    tm_at "rg"
    refine fun D2 nD2 => ?_
    refine comp_rng (n := m) (fun i H5 => Same Ha H5 ∧ ∃ xs, H5 D2 = some (.lst xs) ∧ Ins (PairIs H5) xs (fl i (fun k => decide ((fun k => (Pi k).one) k = box)) fun k => (k, l k % rm k))) ⟨same_new nD2, [], upd_same, Ins.nil⟩ ?_ ?_
    · rintro j H5 hj ⟨e5, ys, h5, hys⟩
      have F5 := F4.ts (Ts.trans Ta (Same.ts e5))
      have hra5 := e5 _ _ hraa
      have hd5 := e5 _ _ hlaa
      refine ⟨rfl, ?_⟩
      tm_at "s"
      refine ite_eqi (fun c => ?_) (fun c => ?_)
      · have hpos := hpD2 j hj c
        tm_at "s"
        refine ⟨hpos, ?_⟩
        tm_at "s"
        refine ⟨by tm_at "sz", fun p np => ?_⟩
        have ep := same_new (o := .tup [.int (j : Int), .int (l j % rm j)]) np
        have hD := ep _ _ h5
        have hyl := hys.len
        have hfl := fl_len (m := j) (pr := fun k => decide ((fun k => (Pi k).one) k = box)) (g := fun k => (k, l k % rm k))
        have nDp : p ≠ D2 := (ne_of_none h5 np).symm
        refine ⟨_, hD, small_lt (by omega), Same.mut (Same.trans e5 ep) nD2, _, upd_same, ?_⟩
        rw [fl_yes (by exact decide_eq_true c)]
        refine Ins.snoc ((pairs_ts hys (Same.ts ep)).imp fun a t q => ?_) ?_
        · exact keep_ne (ne_of q hD (by intro z; cases z)) q
        · exact keep_ne nDp upd_same
      · refine ⟨e5, ys, h5, ?_⟩
        rw [fl_no (by exact decide_eq_false c)]
        exact hys
    rintro H9 ⟨e9, gs, hgs, hgp⟩
    refine ⟨_, _, rfl, .inl ⟨SqL.of hgs, fun y ny => ?_⟩⟩
    have e9' := Same.new (o := .tup gs) e9 ny
    have hY : PairsAt (upd H9 y (.tup gs)) y (laysM m Pi l rm box) := pairs_at (pairs_ts hgp (Same.ts (same_new ny))) upd_same
    generalize upd H9 y (.tup gs) = Hb at e9' hY ⊢
    clear hgp ny hgs e9
    have hrab := e9' _ _ hraa
    have heab := e9' _ _ heaa
    have Tb := Ts.trans Ta (Same.ts e9')
    tm_at "s"
    tm_at "rg"
    refine fun D3 nD3 => ?_
    refine comp_rng (n := m) (fun j H5 => Same Hb H5 ∧ H5 D3 = some (.lst (itab j (moreE Pi e box)))) ⟨same_new nD3, upd_same⟩ ?_ ?_
    · rintro j H5 hj ⟨e5, h5⟩
      have F5 := F4.ts (Ts.trans Tb (Same.ts e5))
      have hra5 := e5 _ _ hrab
      have hd5 := e5 _ _ heab
      have hz : Unit → (itab j (moreE Pi e box)).length < sizeLine := fun _ => small_lt (by rw [itab_len]; omega)
      refine ⟨rfl, ?_⟩
      tm_at "s"
      refine ite_eqi (fun c => ?_) (fun c => ?_)
      · tm_at "s"
        refine ⟨_, h5, hz (), Same.mut e5 nD3, ?_⟩
        rw [upd_same, itab_succ]
        show _ = some (HO.lst (_ ++ [V.int (e j + (if (fun k => (Pi k).other) j = box then (fun k => (Pi k).eat) j else 0))]))
        rw [if_pos c]
      · tm_at "s"
        refine ⟨_, h5, hz (), Same.mut e5 nD3, ?_⟩
        rw [upd_same, itab_succ]
        show _ = some (HO.lst (_ ++ [V.int (e j + (if (fun k => (Pi k).other) j = box then (fun k => (Pi k).eat) j else 0))]))
        rw [if_neg c]
    rintro Hc ⟨ec, hec⟩
    have hrac := ec _ _ hrab
    have hlac := ec _ _ (e9' _ _ hlaa)
    have Tc := Ts.trans Tb (Same.ts ec)
    tm_at "s"
    tm_at "rg"
    refine fun D4 nD4 => ?_
    refine comp_rng (n := m) (fun j H5 => Same Hc H5 ∧ H5 D4 = some (.lst (itab j (moreL Pi l box)))) ⟨same_new nD4, upd_same⟩ ?_ ?_
    · rintro j H5 hj ⟨e5, h5⟩
      have F5 := F4.ts (Ts.trans Tc (Same.ts e5))
      have hra5 := e5 _ _ hrac
      have hd5 := e5 _ _ hlac
      have hz : Unit → (itab j (moreL Pi l box)).length < sizeLine := fun _ => small_lt (by rw [itab_len]; omega)
      refine ⟨rfl, ?_⟩
      tm_at "s"
      refine ite_eqi (fun c => ?_) (fun c => ?_)
      · tm_at "s"
        refine ⟨_, h5, hz (), Same.mut e5 nD4, ?_⟩
        rw [upd_same, itab_succ]
        show _ = some (HO.lst (_ ++ [V.int (l j + (if (fun k => (Pi k).one) j = box then (fun k => (Pi k).give) j else 0))]))
        rw [if_pos c]
      · tm_at "s"
        refine ⟨_, h5, hz (), Same.mut e5 nD4, ?_⟩
        rw [upd_same, itab_succ]
        show _ = some (HO.lst (_ ++ [V.int (l j + (if (fun k => (Pi k).one) j = box then (fun k => (Pi k).give) j else 0))]))
        rw [if_neg c]
    rintro Hd ⟨ed, hld⟩
    have Td := Ts.trans Tc (Same.ts ed)
    have e7d := Same.trans e8' (Same.trans e9' (Same.trans ec ed))
    have Fd := F4.ts Td
    have hsad := e7d _ _ hsa7
    tm_at "s"
    refine ⟨_, _, _, n, m, Pi, s, pa, ad, rfl, Fd, hsad, by omega, fun s2 He ee hs2 => ?_⟩
    have e7e := Same.trans e7d ee
    have hfae := e7e _ _ hfa7
    tm_at "s"
    refine ⟨by tm_at "sz", fun tr ntr => ?_⟩
    have er := same_new (o := .tup [.int box, .ref g, .ref y]) ntr
    have htr : upd He tr (.tup [.int box, .ref g, .ref y]) tr = some (.tup [.int box, .ref g, .ref y]) := upd_same
    refine ⟨by tm_at "sz", fun tl ntl => ?_⟩
    have er2 := Same.new (o := .lst [.ref tr]) er ntl
    have hxl := hts7.len
    refine ⟨fa, tl, _, _, rfl, rfl, er2 _ _ hfae, upd_same, small_ok (by show xs.length + 1 ≤ _; omega), fun fb nfb => ?_⟩
    have er3 := Same.new (o := .lst (xs ++ [.ref tr])) er2 nfb
    have htr3 := keep_new (o := .lst (xs ++ [.ref tr])) nfb (keep_new (o := .lst [.ref tr]) ntl htr)
    have hfb : upd (upd (upd He tr (.tup [.int box, .ref g, .ref y])) tl (.lst [.ref tr])) fb (.lst (xs ++ [.ref tr])) fb = some (.lst (xs ++ [.ref tr])) := upd_same
    generalize upd (upd (upd He tr (.tup [.int box, .ref g, .ref y])) tl (.lst [.ref tr])) fb (.lst (xs ++ [.ref tr])) = Hf at er3 htr3 hfb ⊢
    clear nfb er2 ntl er ntr htr
    have hs2f := er3 _ _ hs2
    have hTrip : TripAt Hf tr ⟨box, getsM m Pi e rm box, laysM m Pi l rm box⟩ := ⟨g, y, htr3, hG.ts (Same.ts (Same.trans e9' (Same.trans ec (Same.trans ed (Same.trans ee er3))))), hY.ts (Same.ts (Same.trans ec (Same.trans ed (Same.trans ee er3))))⟩
    have e7f := Same.trans e7e er3
    refine ⟨by tm_at "sz", fun tp ntp => ?_⟩
    have eg := same_new (o := .tup [.ref s2, .ref fb]) ntp
    have htp : upd Hf tp (.tup [.ref s2, .ref fb]) tp = some (.tup [.ref s2, .ref fb]) := upd_same
    have e7g := Same.trans e7f eg
    tm_at "s"
    refine ⟨_, _, _, _, s2, D3, D4, fb, _, _, _, _, ts ++ [⟨box, getsM m Pi e rm box, laysM m Pi l rm box⟩], rfl, Same.trans e07 e7g, eg _ _ hs2f, eg _ _ (er3 _ _ (ee _ _ (ed _ _ hec))), eg _ _ (er3 _ _ (ee _ _ hld)), eg _ _ hfb, ((hts7.ts (Same.ts e7f)).snoc hTrip).ts (Same.ts eg), by rw [List.length_append]; exact Nat.succ_le_succ htl, ?_, fun k hk => ?_⟩
    · rw [← heq, List.append_assoc]
      rfl
    · have h1 := hcan' k hk
      have h2 := hfull' k hk
      have h3 := hb k hk
      have h4 := (hO.pipe k hk).eat0
      have h5 := (hO.pipe k hk).giv0
      unfold nextM
      by_cases c1 : (Pi k).other = box
      · have := h1 c1
        by_cases c2 : (Pi k).one = box
        · have := h2 c2
          rw [if_pos c1, if_pos c2]
          omega
        · rw [if_pos c1, if_neg c2]
          omega
      · by_cases c2 : (Pi k).one = box
        · have := h2 c2
          rw [if_neg c1, if_pos c2]
          omega
        · rw [if_neg c1, if_neg c2]
          omega
  · rintro σ H3 ⟨x7, x8, x9, x10, sa, ea, la, fa, s, e, l, xs, ts, rfl, e3, hsa, hea, hla, hfa, hts, htl, heq, hb⟩
    tm_at "s"
    have hd : ws.drop (ws.map V.int).length = [] := by rw [List.length_map, List.drop_length]
    rw [hd, cellsM, List.append_nil] at heq
    subst heq
    exact q fa xs H3 e3 hfa hts
end
end Rf
namespace Rf
open PySem PySem.Spec L2
local macro_rules | `(tactic| tm_at "hp") => `(tactic| (first | assumption | exact FlowAt.top (by assumption) | exact FlowAt.all (by assumption) | exact FlowAt.pipe (by assumption) _ (by assumption) | exact upd_same | (refine keep_new (by assumption) ?_; tm_at "hp")))
local macro_rules | `(tactic| tm_at "sq") => `(tactic| (first | exact .inl (by assumption) | exact .inr (by assumption) | exact .inr (SqT.of (by tm_at "hp")) | exact .inl (SqL.of (by tm_at "hp"))))
local macro_rules | `(tactic| tm_at "at") => `(tactic| (first | rfl | exact itab_at (by assumption) | exact tab_at (by assumption) | (refine itab_atI ?_ ?_ <;> assumption)))
local macro_rules | `(tactic| tm_at "ix") => `(tactic| (refine' ⟨_, _, _, _, rfl, rfl, ?hs, ?ha, ?_⟩; (case hs => tm_at "sq"); (case ha => tm_at "at")))
local macro_rules | `(tactic| tm_at "len") => `(tactic| (refine' ⟨_, _, rfl, ?hs, ?_⟩; (case hs => tm_at "sq"); (first | rw [itab_len] | rw [tab_len] | rw [List.length_map] | skip)))
local macro_rules | `(tactic| tm_at "rg") => `(tactic| (refine ⟨rg_lo, rg_hi (by omega), ?_⟩))
local macro_rules | `(tactic| tm_at "rgi") => `(tactic| (refine ⟨rgi_lo (by omega), rgi_hi (by omega), ?_⟩))
local macro_rules | `(tactic| tm_at "ut") => `(tactic| (refine' ⟨_, _, rfl, ?hs, ?hl, ?_⟩; (case hs => exact SqT.of (by tm_at "hp")); (case hl => rfl)))
local macro_rules | `(tactic| tm_at "s") => `(tactic| repeat (first | refine ⟨_, rfl, ?_⟩ | refine ⟨_, _, rfl, rfl, ?_⟩ | tm_at "ix" | tm_at "len" | tm_at "ut" | refine ⟨rfl, ?_⟩ | refine ⟨_, _, rfl, ?_⟩ | refine ⟨_, _, _, rfl, ?_⟩ | refine Or.inl ⟨_, rfl, ?_⟩ | refine ⟨Or.inl ⟨rfl, _, SqL.of (by tm_at "hp")⟩, ?_⟩))
local macro_rules | `(tactic| tm_at "tl") => `(tactic| (refine' ⟨_, _, rfl, Or.inl ⟨SqL.of ?hs, ?_⟩⟩; (case hs => tm_at "hp")))
local macro_rules | `(tactic| tm_at "set") => `(tactic| (refine' ⟨_, _, _, _, rfl, rfl, ?hs, ?hj, ?_⟩; (case hs => tm_at "hp"); (case hj => (first | rfl | exact tab_ixN (by assumption)))))
local macro_rules | `(tactic| tm_at "sz") => `(tactic| (first | exact small_ok (Nat.le_of_ble_eq_true rfl) | exact Nat.le_of_ble_eq_true rfl))
local macro_rules | `(tactic| tm_at "acc") => `(tactic| (refine' ⟨_, ?ha, ?hz, ?_⟩; (case ha => tm_at "hp"); (case hz => (first | rw [itab_len] | rw [tab_len] | rw [List.length_map] | skip); exact small_lt (by omega))))
local macro_rules | `(tactic| tm_at "ap") => `(tactic| (refine' ⟨_, _, _, rfl, rfl, ?hs, ?hz, ?_⟩; (case hs => tm_at "hp")))
local macro_rules | `(tactic| tm_at "sm") => `(tactic| (first | assumption | exact Same.refl _ | (refine Same.new ?_ (by assumption); tm_at "sm") | (refine Same.mut ?_ (by assumption); tm_at "sm")))
section
variable {P : Program} {w : World} {K : PySem.W.Frag} {mg : Str → Option Value} {base : Heap}

def spAlikeIn : Nat → Sp
  | 0 => fun _ _ _ _ => False
  | d + 1 => spAlike d
theorem step_alike (d : Nat) (D : Df K mg "_law_alike" s_alike p_alike) (T : Tx mg) (C_alike : Ca P w K mg base CX0 d "_law_alike" p_alike (spAlikeIn d)) : Ca P w K mg base CX0 (d + 1) "_law_alike" p_alike (spAlike d) := by
  obtain ⟨f_alike, fd_alike, G_alike, m_alike, k_alike, b_alike⟩ := C_alike
  obtain ⟨f0, fd0, F0, gf0, bf0⟩ := D
  refine ⟨f0, fd0, ?_, gf0, F0.kp, bf0⟩
  refine F0.ok sc_alike (fun vs H Q E h => ?_) (fun cdv A outer s0 H vs Q E hr h => ?_)
  · obtain ⟨x, y, rfl, _⟩ := h
    rfl
  obtain ⟨x, y, rfl, hT, q⟩ := h
  refine ⟨_, (pss_cons (ps_if (pt_val (pe_callB call_is2 (by rfl) T.z_isinstance (by decide +kernel) (pa_cons (pv 1) (pa_cons (pe_tup (pa_cons (pe_bltn (v := .ty "tuple") (by rfl) T.z_tuple (by decide +kernel) rfl) (pa_cons (pe_bltn (v := .ty "list") (by rfl) T.z_list (by decide +kernel) rfl) pa_nil))) pa_nil)))) (pss_cons (ps_if (PW.pt (pw_or (pt_not (pt_val (pe_callB call_is2 (by rfl) T.z_isinstance (by decide +kernel) (pa_cons (pv 0) (pa_cons (pe_tup (pa_cons (pe_bltn (v := .ty "tuple") (by rfl) T.z_tuple (by decide +kernel) rfl) (pa_cons (pe_bltn (v := .ty "list") (by rfl) T.z_list (by decide +kernel) rfl) pa_nil))) pa_nil))))) (pw_or1 (pt_cmpR op_ne (pe_callB call_is (by rfl) T.z_isinstance (by decide +kernel) (pa_cons (pv 0) (pa_cons (pe_bltn (v := .ty "list") (by rfl) T.z_list (by decide +kernel) rfl) pa_nil))) (pe_callB call_is (by rfl) T.z_isinstance (by decide +kernel) (pa_cons (pv 1) (pa_cons (pe_bltn (v := .ty "list") (by rfl) T.z_list (by decide +kernel) rfl) pa_nil))) (nomark _))))) (pss_one (ps_ret pe_bl)) pss_nil) (pss_cons (ps_if (pt_cmpR op_ne (pe_callB (call_lenK (K := K) rfl) (by rfl) T.z_len PySem.boot_len (pa_cons (pv 0) pa_nil)) (pe_callB (call_lenK (K := K) rfl) (by rfl) T.z_len PySem.boot_len (pa_cons (pv 1) pa_nil)) (nomark _)) (pss_one (ps_ret pe_bl)) pss_nil) (pss_one (ps_ret (pe_cmpR (op_eqK (K := K) rfl hr.units) (pe_lc (own := [("_law_k", 2)]) (g := gName 2) (by rfl) sc_alike.nd (pi_range1 (by rfl) T.z_range (pa_cons (pe_callB (call_lenK (K := K) rfl) (by rfl) T.z_len PySem.boot_len (pa_cons (pv 1) pa_nil)) pa_nil)) (blkOk_by (own := [("_law_k", 2)]) (N := n_alike) (sc := defScope s_alike) (by decide +kernel)) (fun _ _ _ _ _ => pg_name (i := 2) sc_alike.nd rfl (Or.inl rfl)) (fun _ _ _ _ _ => pts_one (pt_not (pt_val (pe_call G_alike (hr.mono (by omega)) (by rfl) m_alike k_alike b_alike .nil pass0 (pa_cons (pe_ix (ix_ltK (K := K) rfl) (pv 0) (pv 2) (fun _ _ => rfl)) (pa_cons (pe_ix (ix_ltK (K := K) rfl) (pv 1) (pv 2) (fun _ _ => rfl)) pa_nil)))))) (fun _ _ _ _ _ => (pv 2))) (pe_lst pa_nil) (nomark _)))))) pss_nil) (pss_cons (ps_if (PW.pt (pw_or (pt_cmpR op_isN (pv 1) pe_non (nomark _)) (pw_or1 (pt_val (pe_callB call_is (by rfl) T.z_isinstance (by decide +kernel) (pa_cons (pv 1) (pa_cons (pe_bltn (v := .ty "str") (by rfl) T.z_str (by decide +kernel) rfl) pa_nil))))))) (pss_one (ps_ret (pe_and (pe_cmpR op_eq (pv 0) (pv 1) (nomark _)) (pe_one (pe_cmpR op_eq (pe_callB call_is (by rfl) T.z_isinstance (by decide +kernel) (pa_cons (pv 0) (pa_cons (pe_bltn (v := .ty "str") (by rfl) T.z_str (by decide +kernel) rfl) pa_nil))) (pe_callB call_is (by rfl) T.z_isinstance (by decide +kernel) (pa_cons (pv 1) (pa_cons (pe_bltn (v := .ty "str") (by rfl) T.z_str (by decide +kernel) rfl) pa_nil))) (nomark _)))))) pss_nil) (pss_one (ps_ret (pe_and (pe_callB call_is (by rfl) T.z_isinstance (by decide +kernel) (pa_cons (pv 0) (pa_cons (pe_bltn (v := .ty "int") (by rfl) T.z_int (by decide +kernel) rfl) pa_nil))) (pe_and (pe_cmpR op_eq (pe_callB call_is (by rfl) T.z_isinstance (by decide +kernel) (pa_cons (pv 0) (pa_cons (pe_bltn (v := .ty "bool") (by rfl) T.z_bool (by decide +kernel) rfl) pa_nil))) (pe_callB call_is (by rfl) T.z_isinstance (by decide +kernel) (pa_cons (pv 1) (pa_cons (pe_bltn (v := .ty "bool") (by rfl) T.z_bool (by decide +kernel) rfl) pa_nil))) (nomark _)) (pe_one (pe_cmpR op_eq (pv 0) (pv 1) (nomark _))))))))), ?_⟩
  tm_at "s"
  refine ⟨by tm_at "sz", fun p np => ?_⟩
  have e1 := same_new (o := .tup [.ty "tuple", .ty "list"]) np
  have hp : upd H p (.tup [.ty "tuple", .ty "list"]) p = some (.tup [.ty "tuple", .ty "list"]) := upd_same
  generalize upd H p (.tup [.ty "tuple", .ty "list"]) = H1 at e1 hp ⊢
  cases hT with
  | int d i =>
    refine ⟨_, _, _, _, _, _, _, rfl, hp, .int _, kb_it, kb_il, ?_⟩
    tm_at "s"
    refine ⟨_, _, _, _, rfl, .int _, kb_is, ?_⟩
    tm_at "s"
    refine ⟨_, _, _, _, rfl, .int _, kb_ii, ?_⟩
    tm_at "s"
    refine ⟨_, _, _, _, rfl, .int _, kb_ib, ?_⟩
    tm_at "s"
    refine ⟨_, _, _, _, rfl, .int _, kb_ib, ?_⟩
    tm_at "s"
    rw [decide_eq_true rfl]
    exact q H1 e1
  | tup d a b xs ys ha hb hl hz ht =>
    have ha1 := e1 _ _ ha
    have hb1 := e1 _ _ hb
    refine ⟨_, _, _, _, _, _, _, rfl, hp, .tup _ _ hb1, kb_tt, kb_tl, ?_⟩
    tm_at "s"
    refine ⟨by tm_at "sz", fun p2 np2 => ?_⟩
    have e2 := same_new (o := .tup [.ty "tuple", .ty "list"]) np2
    have ha2 := e2 _ _ ha1
    have hb2 := e2 _ _ hb1
    have e3 := Same.trans e1 e2
    refine ⟨_, _, _, _, _, _, _, rfl, upd_same, .tup _ _ ha2, kb_tt, kb_tl, ?_⟩
    generalize upd H1 p2 (.tup [.ty "tuple", .ty "list"]) = H2 at e2 e3 ha2 hb2 ⊢
    tm_at "s"
    refine ⟨_, _, _, _, rfl, .tup _ _ ha2, kb_tl, ?_⟩
    tm_at "s"
    refine ⟨_, _, _, _, rfl, .tup _ _ hb2, kb_tl, ?_⟩
    tm_at "s"
    refine ite_nei (fun c => absurd (by rw [hl]) c) (fun _ => ?_)
    tm_at "s"
    refine ⟨rg_lo, rg_hi (by omega), ?_⟩
    refine fun D nD => ?_
    refine comp_rng (n := ys.length) (fun i H3 => Same H2 H3 ∧ H3 D = some (.lst [])) ⟨same_new nD, upd_same⟩ ?_ ?_
    · rintro i H3 hi ⟨e4, h3⟩
      have hxi : xs[i]? = some (xs[i]'(by omega)) := List.getElem?_eq_getElem _
      have hyi : ys[i]? = some (ys[i]'hi) := List.getElem?_eq_getElem _
      refine ⟨rfl, ?_⟩
      tm_at "s"
      refine ⟨_, _, _, _, rfl, rfl, .inr (SqT.of (e4 _ _ ha2)), atI_nat hxi, ?_⟩
      tm_at "s"
      refine ⟨_, _, _, _, rfl, rfl, .inr (SqT.of (e4 _ _ hb2)), atI_nat hyi, ?_⟩
      refine ⟨_, _, rfl, (ht i _ _ hxi hyi).ts (Same.ts (Same.trans e3 e4)), fun H4 e5 => ?_⟩
      tm_at "s"
      exact ⟨Same.trans e4 e5, e5 _ _ h3⟩
    · rintro H3 ⟨e4, h3⟩
      refine ⟨by decide, fun p4 np4 => ?_⟩
      refine st_eqL (ks := []) (ls := []) (keep_new np4 h3) upd_same ?_
      exact q _ (Same.new (Same.trans e3 e4) np4)
theorem ok_law_alike (D : Df K mg "_law_alike" s_alike p_alike) (T : Tx mg) : ∀ d, Ca P w K mg base CX0 (d + 1) "_law_alike" p_alike (spAlike d)
  | 0 => by
    obtain ⟨f, fd, F, gf, bf⟩ := D
    exact step_alike 0 ⟨f, fd, F, gf, bf⟩ T ⟨f, fd, fn_no (fun _ _ _ _ h => h), gf, F.kp, bf⟩
  | d + 1 => step_alike (d + 1) D T (ok_law_alike D T d)
end
end Rf
namespace Rf
open PySem PySem.Spec L2
local macro_rules | `(tactic| tm_at "hp") => `(tactic| (first | assumption | exact FlowAt.top (by assumption) | exact FlowAt.all (by assumption) | exact FlowAt.pipe (by assumption) _ (by assumption) | exact upd_same | (refine keep_new (by assumption) ?_; tm_at "hp")))
local macro_rules | `(tactic| tm_at "sq") => `(tactic| (first | exact .inl (by assumption) | exact .inr (by assumption) | exact .inr (SqT.of (by tm_at "hp")) | exact .inl (SqL.of (by tm_at "hp"))))
local macro_rules | `(tactic| tm_at "at") => `(tactic| (first | rfl | exact itab_at (by assumption) | exact tab_at (by assumption) | (refine itab_atI ?_ ?_ <;> assumption)))
local macro_rules | `(tactic| tm_at "ix") => `(tactic| (refine' ⟨_, _, _, _, rfl, rfl, ?hs, ?ha, ?_⟩; (case hs => tm_at "sq"); (case ha => tm_at "at")))
local macro_rules | `(tactic| tm_at "len") => `(tactic| (refine' ⟨_, _, rfl, ?hs, ?_⟩; (case hs => tm_at "sq"); (first | rw [itab_len] | rw [tab_len] | rw [List.length_map] | skip)))
local macro_rules | `(tactic| tm_at "rg") => `(tactic| (refine ⟨rg_lo, rg_hi (by omega), ?_⟩))
local macro_rules | `(tactic| tm_at "rgi") => `(tactic| (refine ⟨rgi_lo (by omega), rgi_hi (by omega), ?_⟩))
local macro_rules | `(tactic| tm_at "ut") => `(tactic| (refine' ⟨_, _, rfl, ?hs, ?hl, ?_⟩; (case hs => exact SqT.of (by tm_at "hp")); (case hl => rfl)))
local macro_rules | `(tactic| tm_at "s") => `(tactic| repeat (first | refine ⟨_, rfl, ?_⟩ | refine ⟨_, _, rfl, rfl, ?_⟩ | tm_at "ix" | tm_at "len" | tm_at "ut" | refine ⟨rfl, ?_⟩ | refine ⟨_, _, rfl, ?_⟩ | refine ⟨_, _, _, rfl, ?_⟩ | refine Or.inl ⟨_, rfl, ?_⟩ | refine ⟨Or.inl ⟨rfl, _, SqL.of (by tm_at "hp")⟩, ?_⟩))
local macro_rules | `(tactic| tm_at "tl") => `(tactic| (refine' ⟨_, _, rfl, Or.inl ⟨SqL.of ?hs, ?_⟩⟩; (case hs => tm_at "hp")))
local macro_rules | `(tactic| tm_at "set") => `(tactic| (refine' ⟨_, _, _, _, rfl, rfl, ?hs, ?hj, ?_⟩; (case hs => tm_at "hp"); (case hj => (first | rfl | exact tab_ixN (by assumption)))))
local macro_rules | `(tactic| tm_at "sz") => `(tactic| (first | exact small_ok (Nat.le_of_ble_eq_true rfl) | exact Nat.le_of_ble_eq_true rfl))
local macro_rules | `(tactic| tm_at "acc") => `(tactic| (refine' ⟨_, ?ha, ?hz, ?_⟩; (case ha => tm_at "hp"); (case hz => (first | rw [itab_len] | rw [tab_len] | rw [List.length_map] | skip); exact small_lt (by omega))))
local macro_rules | `(tactic| tm_at "ap") => `(tactic| (refine' ⟨_, _, _, rfl, rfl, ?hs, ?hz, ?_⟩; (case hs => tm_at "hp")))
local macro_rules | `(tactic| tm_at "sm") => `(tactic| (first | assumption | exact Same.refl _ | (refine Same.new ?_ (by assumption); tm_at "sm") | (refine Same.mut ?_ (by assumption); tm_at "sm")))
section
variable {P : Program} {w : World} {K : PySem.W.Frag} {mg : Str → Option Value} {base : Heap}

theorem ok_is_in (D : Df K mg "is_in" s_is_in p_is_in) (T : Tx mg) : Ca P w K mg base CX0 1 "is_in" p_is_in spIsIn := by
  obtain ⟨f0, fd0, F0, gf0, bf0⟩ := D
  refine ⟨f0, fd0, ?_, gf0, F0.kp, bf0⟩
  refine F0.ok sc_is_in (fun vs H Q E h => ?_) (fun cdv A outer s0 H vs Q E hr h => ?_)
  · rcases h with ⟨v, lo, hi, rfl, _⟩ | ⟨a, xs, lo, hi, rfl, _⟩ <;> rfl
  refine ⟨_, (pss_one (ps_ret (pe_and (pe_callB call_is (by rfl) T.z_isinstance (by decide +kernel) (pa_cons (pv 0) (pa_cons (pe_bltn (v := .ty "int") (by rfl) T.z_int (by decide +kernel) rfl) pa_nil))) (pe_and (pe_not (pe_callB call_is (by rfl) T.z_isinstance (by decide +kernel) (pa_cons (pv 0) (pa_cons (pe_bltn (v := .ty "bool") (by rfl) T.z_bool (by decide +kernel) rfl) pa_nil)))) (pe_one (pe_chain op_le op_le (pv 1) (pv 0) (pv 2))))))), ?_⟩
  rcases h with ⟨v, lo, hi, rfl, q⟩ | ⟨a, xs, lo, hi, rfl, ha, q⟩
  · tm_at "s"
    refine ⟨_, _, _, _, rfl, .int _, kb_ii, ?_⟩
    tm_at "s"
    refine ⟨_, _, _, _, rfl, .int _, kb_ib, ?_⟩
    tm_at "s"
    refine ite_dec (fun c => ?_) (fun c => ?_)
    · tm_at "s"
      rw [decide_eq_true c, Bool.true_and] at q
      exact q
    · rw [decide_eq_false c, Bool.false_and] at q
      exact q
  · tm_at "s"
    refine ⟨_, _, _, _, rfl, .tup _ _ ha, kb_ti, ?_⟩
    tm_at "s"
    exact q
theorem ok_is_pipe (D : Df K mg "is_pipe" s_is_pipe p_is_pipe) (T : Tx mg) (C_is_in : Ca P w K mg base CX0 1 "is_in" p_is_in spIsIn) (N_MOST_RATE : Cn mg "MOST_RATE" 999) (N_MOST_TOKENS : Cn mg "MOST_TOKENS" 99999) : Ca P w K mg base CX0 2 "is_pipe" p_is_pipe spIsPipe := by
  obtain ⟨f_is_in, fd_is_in, G_is_in, m_is_in, k_is_in, b_is_in⟩ := C_is_in
  obtain ⟨t_MOST_RATE, c_MOST_RATE⟩ := N_MOST_RATE
  obtain ⟨t_MOST_TOKENS, c_MOST_TOKENS⟩ := N_MOST_TOKENS
  obtain ⟨f0, fd0, F0, gf0, bf0⟩ := D
  refine ⟨f0, fd0, ?_, gf0, F0.kp, bf0⟩
  refine F0.ok sc_is_pipe (fun vs H Q E h => ?_) (fun cdv A outer s0 H vs Q E hr h => ?_)
  · obtain ⟨a, n, p, rfl, _⟩ := h
    rfl
  obtain ⟨a, n, p, rfl, ha, ⟨o1, o2, o3, o4, o5, o6, o7, o8, o9, o10⟩, q⟩ := h
  refine ⟨_, (pss_cons (ps_if (PW.pt (pw_or (pt_not (pt_val (pe_callB call_is (by rfl) T.z_isinstance (by decide +kernel) (pa_cons (pv 0) (pa_cons (pe_bltn (v := .ty "tuple") (by rfl) T.z_tuple (by decide +kernel) rfl) pa_nil))))) (pw_or1 (pt_cmpR op_ne (pe_callB (call_lenK (K := K) rfl) (by rfl) T.z_len PySem.boot_len (pa_cons (pv 0) pa_nil)) pe_int (nomark _))))) (pss_one (ps_ret pe_bl)) pss_nil) (pss_cons (ps_if (PW.pt (pw_or (pt_not (pt_val (pe_call G_is_in (hr.mono (by decide)) (by rfl) m_is_in k_is_in b_is_in .nil pass0 (pa_cons (pe_ix (ix_ltK (K := K) rfl) (pv 0) pe_int (fun _ _ => rfl)) (pa_cons pe_int (pa_cons (pe_op op_sub (pv 1) pe_int) pa_nil)))))) (pw_or1 (pt_not (pt_val (pe_call G_is_in (hr.mono (by decide)) (by rfl) m_is_in k_is_in b_is_in .nil pass0 (pa_cons (pe_ix (ix_ltK (K := K) rfl) (pv 0) pe_int (fun _ _ => rfl)) (pa_cons pe_int (pa_cons (pe_op op_sub (pv 1) pe_int) pa_nil))))))))) (pss_one (ps_ret pe_bl)) pss_nil) (pss_cons (ps_if (PW.pt (pw_or (pt_not (pt_val (pe_call G_is_in (hr.mono (by decide)) (by rfl) m_is_in k_is_in b_is_in .nil pass0 (pa_cons (pe_ix (ix_ltK (K := K) rfl) (pv 0) pe_int (fun _ _ => rfl)) (pa_cons pe_int (pa_cons (pe_glob (v := .int 999) (by rfl) c_MOST_RATE ⟨_, rfl⟩) pa_nil)))))) (pw_or1 (pt_not (pt_val (pe_call G_is_in (hr.mono (by decide)) (by rfl) m_is_in k_is_in b_is_in .nil pass0 (pa_cons (pe_ix (ix_ltK (K := K) rfl) (pv 0) pe_int (fun _ _ => rfl)) (pa_cons pe_int (pa_cons (pe_glob (v := .int 999) (by rfl) c_MOST_RATE ⟨_, rfl⟩) pa_nil))))))))) (pss_one (ps_ret pe_bl)) pss_nil) (pss_one (ps_ret (pe_call G_is_in (hr.mono (by decide)) (by rfl) m_is_in k_is_in b_is_in .nil pass0 (pa_cons (pe_ix (ix_ltK (K := K) rfl) (pv 0) pe_int (fun _ _ => rfl)) (pa_cons pe_int (pa_cons (pe_glob (v := .int 99999) (by rfl) c_MOST_TOKENS ⟨_, rfl⟩) pa_nil))))))))), ?_⟩
  tm_at "s"
  refine ⟨_, _, _, _, rfl, .tup _ _ ha, kb_tt, ?_⟩
  tm_at "s"
  refine .inl ⟨p.one, 0, (n : Int) - 1, rfl, ?_⟩
  rw [decide_eq_true (by omega), decide_eq_true (by omega)]
  tm_at "s"
  refine .inl ⟨p.other, 0, (n : Int) - 1, rfl, ?_⟩
  rw [decide_eq_true (by omega), decide_eq_true (by omega)]
  tm_at "s"
  refine .inl ⟨p.give, 1, 999, rfl, ?_⟩
  rw [decide_eq_true (by omega), decide_eq_true (by omega)]
  tm_at "s"
  refine .inl ⟨p.eat, 1, 999, rfl, ?_⟩
  rw [decide_eq_true (by omega), decide_eq_true (by omega)]
  tm_at "s"
  refine .inl ⟨p.start, 0, 99999, rfl, ?_⟩
  rw [decide_eq_true (by omega), decide_eq_true (by omega)]
  exact q
theorem ok_need_flow (D : Df K mg "need_flow" s_need_flow p_need_flow) (T : Tx mg) (C_is_in : Ca P w K mg base CX0 1 "is_in" p_is_in spIsIn) (C_is_pipe : Ca P w K mg base CX0 2 "is_pipe" p_is_pipe spIsPipe) (N_MOST_BOXES : Cn mg "MOST_BOXES" 8) (N_MOST_PIPES : Cn mg "MOST_PIPES" 16) : Ca P w K mg base CX0 3 "need_flow" p_need_flow spNeedFlow := by
  obtain ⟨f_is_in, fd_is_in, G_is_in, m_is_in, k_is_in, b_is_in⟩ := C_is_in
  obtain ⟨f_is_pipe, fd_is_pipe, G_is_pipe, m_is_pipe, k_is_pipe, b_is_pipe⟩ := C_is_pipe
  obtain ⟨t_MOST_BOXES, c_MOST_BOXES⟩ := N_MOST_BOXES
  obtain ⟨t_MOST_PIPES, c_MOST_PIPES⟩ := N_MOST_PIPES
  obtain ⟨f0, fd0, F0, gf0, bf0⟩ := D
  refine ⟨f0, fd0, ?_, gf0, F0.kp, bf0⟩
  refine F0.ok sc_need_flow (fun vs H Q E h => ?_) (fun cdv A outer s0 H vs Q E hr h => ?_)
  · obtain ⟨f, n, m, Pi, pa, ad, rfl, _⟩ := h
    rfl
  obtain ⟨f, n, m, Pi, pa, ad, rfl, hF, hO, q⟩ := h
  have hn1 := hO.n1
  have hn5 := hO.n5
  have hm6 := hO.m6
  refine ⟨_, (pss_cons (ps_if (PW.pt (pw_or (pt_not (pt_val (pe_callB call_is (by rfl) T.z_isinstance (by decide +kernel) (pa_cons (pv 0) (pa_cons (pe_bltn (v := .ty "tuple") (by rfl) T.z_tuple (by decide +kernel) rfl) pa_nil))))) (pw_or (pt_cmpR op_ne (pe_callB (call_lenK (K := K) rfl) (by rfl) T.z_len PySem.boot_len (pa_cons (pv 0) pa_nil)) pe_int (nomark _)) (pw_or1 (pt_not (pt_val (pe_call G_is_in (hr.mono (by decide)) (by rfl) m_is_in k_is_in b_is_in .nil pass0 (pa_cons (pe_ix (ix_ltK (K := K) rfl) (pv 0) pe_int (fun _ _ => rfl)) (pa_cons pe_int (pa_cons (pe_glob (v := .int 8) (by rfl) c_MOST_BOXES ⟨_, rfl⟩) pa_nil)))))))))) (pss_one ps_never) pss_nil) (pss_cons (ps_if (PW.pt (pw_or (pt_not (pt_val (pe_callB call_is (by rfl) T.z_isinstance (by decide +kernel) (pa_cons (pe_ix (ix_ltK (K := K) rfl) (pv 0) pe_int (fun _ _ => rfl)) (pa_cons (pe_bltn (v := .ty "tuple") (by rfl) T.z_tuple (by decide +kernel) rfl) pa_nil))))) (pw_or1 (pt_cmpR op_gt (pe_callB (call_lenK (K := K) rfl) (by rfl) T.z_len PySem.boot_len (pa_cons (pe_ix (ix_ltK (K := K) rfl) (pv 0) pe_int (fun _ _ => rfl)) pa_nil)) (pe_glob (v := .int 16) (by rfl) c_MOST_PIPES ⟨_, rfl⟩) (nomark _))))) (pss_one ps_never) pss_nil) (pss_one (ps_for PassesOwn.never rfl (pi_enumTK (K := K) rfl (by rfl) T.z_enumerate (pa_cons (pe_ix (ix_ltK (K := K) rfl) (pv 0) pe_int (fun _ _ => rfl)) pa_nil)) (pg_tupK (K := K) rfl (by rfl) (pgs_cons (pg_name (i := 1) sc_need_flow.nd rfl (.inl rfl)) (pgs_cons (pg_name (i := 2) sc_need_flow.nd rfl (.inl rfl)) pgs_nil))) (pss_one (ps_if (pt_not (pt_val (pe_call G_is_pipe (hr.mono (by decide)) (by rfl) m_is_pipe k_is_pipe b_is_pipe .nil pass0 (pa_cons (pv 2) (pa_cons (pe_ix (ix_ltK (K := K) rfl) (pv 0) pe_int (fun _ _ => rfl)) pa_nil))))) (pss_one ps_never) pss_nil)))))), ?_⟩
  tm_at "s"
  refine ⟨_, _, _, _, rfl, .tup _ _ hF.top, kb_tt, ?_⟩
  tm_at "s"
  refine .inl ⟨n, 1, 8, rfl, ?_⟩
  rw [decide_eq_true (by omega), decide_eq_true (by omega)]
  tm_at "s"
  refine ⟨_, _, _, _, rfl, .tup _ _ hF.all, kb_tt, ?_⟩
  tm_at "s"
  refine ite_dec (fun c => by omega) (fun _ => ?_)
  tm_at "s"
  refine ⟨_, _, rfl, SqT.of hF.all, ?_⟩
  refine for_enumT (K := K) (a := pa) (xs := tab m fun k => .ref (ad k)) (fun i σ H2 => ∃ x1 x2, σ = [some (.ref f), x1, x2] ∧ Same H H2) ⟨none, none, rfl, Same.refl _⟩ ?_ ?_ ?_
  · rintro i σ H2 hi ⟨x1, x2, rfl, e2⟩
    exact SqT.of (e2 _ _ hF.all)
  · rintro i x σ H2 t hx ⟨x1, x2, rfl, e2⟩ nt
    obtain ⟨hi, rfl⟩ := tab_some hx
    have e3 := Same.new (o := .tup [.int (i : Nat), .ref (ad i)]) e2 nt
    have F3 := hF.ts (Same.ts e3)
    tm_at "s"
    refine ⟨_, n, Pi i, rfl, F3.pipe i hi, hO.pipe i hi, ?_⟩
    tm_at "s"
    exact e3
  · rintro σ H2 ⟨x1, x2, rfl, e2⟩
    exact q H2 e2
theorem ok_marks_in (D : Df K mg "marks_in" s_marks_in p_marks_in) (T : Tx mg) : Ca P w K mg base CX0 1 "marks_in" p_marks_in spSome := by
  obtain ⟨f0, fd0, F0, gf0, bf0⟩ := D
  refine ⟨f0, fd0, ?_, gf0, F0.kp, bf0⟩
  refine F0.ok sc_marks_in (fun vs H Q E h => ?_) (fun cdv A outer s0 H vs Q E hr h => ?_)
  · obtain ⟨f, n, m, Pi, pa, ad, rfl, _⟩ := h
    rfl
  obtain ⟨f, n, m, Pi, pa, ad, rfl, hF, hm, q⟩ := h
  refine ⟨_, (pss_one (ps_ret (pe_callTy (call_tupleK (K := K) rfl) (by rfl) T.z_tuple (by decide +kernel) (pa_cons (pe_lc (own := [("pipe", 1)]) (g := gName 1) (by rfl) sc_marks_in.nd (pi_tupK (K := K) rfl (pe_ix (ix_ltK (K := K) rfl) (pv 0) pe_int (fun _ _ => rfl))) (blkOk_by (own := [("pipe", 1)]) (N := n_marks_in) (sc := defScope s_marks_in) (by decide +kernel)) (fun _ _ _ _ _ => pg_name (i := 1) sc_marks_in.nd rfl (Or.inl rfl)) (fun _ _ _ _ _ => pts_nil) (fun _ _ _ _ _ => (pe_ix (ix_ltK (K := K) rfl) (pv 1) pe_int (fun _ _ => rfl)))) pa_nil)))), ?_⟩
  tm_at "s"
  refine ⟨⟨_, SqT.of hF.all⟩, fun D nD => ?_⟩
  refine lc_tup (K := K) (a := pa) (xs := tab m fun k => .ref (ad k)) (fun j H3 => Same H H3 ∧ H3 D = some (.lst (itab j fun k => (Pi k).start))) ⟨same_new nD, upd_same⟩ ?_ ?_ ?_
  · rintro j H3 hj ⟨e3, h3⟩
    exact SqT.of (e3 _ _ hF.all)
  · rintro j x H3 hx ⟨e3, h3⟩
    obtain ⟨hj, rfl⟩ := tab_some hx
    have F3 := hF.ts (Same.ts e3)
    refine ⟨rfl, ?_⟩
    tm_at "s"
    refine ⟨_, h3, small_lt (by rw [itab_len]; omega), Same.mut e3 nD, ?_⟩
    rw [upd_same, itab_succ]
  · rintro H3 ⟨e3, h3⟩
    rw [tab_len] at h3
    refine ⟨_, _, rfl, .inl ⟨SqL.of h3, fun p np => ?_⟩⟩
    exact q p _ (Same.new e3 np) upd_same
theorem ok_lacks (D : Df K mg "lacks" s_lacks p_lacks) (T : Tx mg) : Ca P w K mg base CX0 1 "lacks" p_lacks spLacks := by
  obtain ⟨f0, fd0, F0, gf0, bf0⟩ := D
  refine ⟨f0, fd0, ?_, gf0, F0.kp, bf0⟩
  refine F0.ok sc_lacks (fun vs H Q E h => ?_) (fun cdv A outer s0 H vs Q E hr h => ?_)
  · obtain ⟨f, sa, box, n, m, Pi, s, pa, ad, rfl, _⟩ := h
    rfl
  obtain ⟨f, sa, box, n, m, Pi, s, pa, ad, rfl, hF, hs, hm, q⟩ := h
  refine ⟨_, (pss_cons (ps_for PassesOwn.never rfl (pi_enumTK (K := K) rfl (by rfl) T.z_enumerate (pa_cons (pe_ix (ix_ltK (K := K) rfl) (pv 0) pe_int (fun _ _ => rfl)) pa_nil)) (pg_tupK (K := K) rfl (by rfl) (pgs_cons (pg_name (i := 3) sc_lacks.nd rfl (.inl rfl)) (pgs_cons (pg_tupK (K := K) rfl (by rfl) (pgs_cons (pg_name (i := 4) sc_lacks.nd rfl (.inl rfl)) (pgs_cons (pg_name (i := 5) sc_lacks.nd rfl (.inl rfl)) (pgs_cons (pg_name (i := 6) sc_lacks.nd rfl (.inl rfl)) (pgs_cons (pg_name (i := 7) sc_lacks.nd rfl (.inl rfl)) (pgs_cons (pg_name (i := 8) sc_lacks.nd rfl (.inl rfl)) pgs_nil)))))) pgs_nil))) (pss_one (ps_if (PW.pt (pw_and (pt_cmpR op_eq (pv 5) (pv 2) (nomark _)) (pw_and1 (pt_cmpR op_lt (pe_ix (ix_ltK (K := K) rfl) (pv 1) (pv 3) (fun _ _ => rfl)) (pv 7) (nomark _))))) (pss_one (ps_ret (pv 3))) pss_nil))) (pss_one (ps_ret pe_non))), ?_⟩
  tm_at "s"
  refine ⟨_, _, rfl, SqT.of hF.all, ?_⟩
  refine for_enumT (K := K) (a := pa) (xs := tab m fun k => .ref (ad k)) (fun i σ H2 => ∃ x3 x4 x5 x6 x7 x8, σ = [some (.ref f), some (.ref sa), some (.int box), x3, x4, x5, x6, x7, x8] ∧ Same H H2 ∧ ∀ k, k < i → (Pi k).other = box → ¬ s k < (Pi k).eat) ⟨none, none, none, none, none, none, rfl, Same.refl _, fun k hk => absurd hk (Nat.not_lt_zero k)⟩ ?_ ?_ ?_
  · rintro i σ H2 hi ⟨_, _, _, _, _, _, rfl, e2, _⟩
    exact SqT.of (e2 _ _ hF.all)
  · rintro i x σ H2 t hx ⟨_, _, _, _, _, _, rfl, e2, hb⟩ nt
    obtain ⟨hi, rfl⟩ := tab_some hx
    have e3 := Same.new (o := .tup [.int (i : Nat), .ref (ad i)]) e2 nt
    have F3 := hF.ts (Same.ts e3)
    have s3 := e3 _ _ hs
    have hP := F3.pipe i hi
    unfold Pipe.vs at hP
    tm_at "s"
    refine ite_eqi (fun c => ?_) (fun c => ?_)
    · tm_at "s"
      refine ite_dec (fun c2 => ?_) (fun c2 => ?_)
      · tm_at "s"
        refine (q _ e3).2 ?_ i
        unfold canM
        rw [List.all_eq_false]
        exact ⟨i, List.mem_range.mpr hi, by rw [decide_eq_true c, decide_eq_true c2]; decide⟩
      · refine ⟨_, _, _, _, _, _, rfl, e3, fun k hk => ?_⟩
        by_cases e : k = i
        · subst e
          exact fun _ => c2
        · exact hb k (by omega)
    · refine ⟨_, _, _, _, _, _, rfl, e3, fun k hk => ?_⟩
      by_cases e : k = i
      · subst e
        exact fun z => absurd z c
      · exact hb k (by omega)
  · rintro σ H2 ⟨_, _, _, _, _, _, rfl, e2, hb⟩
    rw [tab_len] at hb
    tm_at "s"
    refine (q _ e2).1 ?_
    unfold canM
    rw [List.all_eq_true]
    intro k hk
    by_cases c : (Pi k).other = box
    · rw [decide_eq_false (hb k (List.mem_range.mp hk) c), Bool.and_false]
      rfl
    · rw [decide_eq_false c]
      rfl
end
end Rf
namespace Rf
open PySem PySem.Spec L2
local macro_rules | `(tactic| tm_at "hp") => `(tactic| (first | assumption | exact FlowAt.top (by assumption) | exact FlowAt.all (by assumption) | exact FlowAt.pipe (by assumption) _ (by assumption) | exact upd_same | (refine keep_new (by assumption) ?_; tm_at "hp")))
local macro_rules | `(tactic| tm_at "sq") => `(tactic| (first | exact .inl (by assumption) | exact .inr (by assumption) | exact .inr (SqT.of (by tm_at "hp")) | exact .inl (SqL.of (by tm_at "hp"))))
local macro_rules | `(tactic| tm_at "at") => `(tactic| (first | rfl | exact itab_at (by assumption) | exact tab_at (by assumption) | (refine itab_atI ?_ ?_ <;> assumption)))
local macro_rules | `(tactic| tm_at "ix") => `(tactic| (refine' ⟨_, _, _, _, rfl, rfl, ?hs, ?ha, ?_⟩; (case hs => tm_at "sq"); (case ha => tm_at "at")))
local macro_rules | `(tactic| tm_at "len") => `(tactic| (refine' ⟨_, _, rfl, ?hs, ?_⟩; (case hs => tm_at "sq"); (first | rw [itab_len] | rw [tab_len] | rw [List.length_map] | skip)))
local macro_rules | `(tactic| tm_at "rg") => `(tactic| (refine ⟨rg_lo, rg_hi (by omega), ?_⟩))
local macro_rules | `(tactic| tm_at "rgi") => `(tactic| (refine ⟨rgi_lo (by omega), rgi_hi (by omega), ?_⟩))
local macro_rules | `(tactic| tm_at "ut") => `(tactic| (refine' ⟨_, _, rfl, ?hs, ?hl, ?_⟩; (case hs => exact SqT.of (by tm_at "hp")); (case hl => rfl)))
local macro_rules | `(tactic| tm_at "s") => `(tactic| repeat (first | refine ⟨_, rfl, ?_⟩ | refine ⟨_, _, rfl, rfl, ?_⟩ | tm_at "ix" | tm_at "len" | tm_at "ut" | refine ⟨rfl, ?_⟩ | refine ⟨_, _, rfl, ?_⟩ | refine ⟨_, _, _, rfl, ?_⟩ | refine Or.inl ⟨_, rfl, ?_⟩ | refine ⟨Or.inl ⟨rfl, _, SqL.of (by tm_at "hp")⟩, ?_⟩))
local macro_rules | `(tactic| tm_at "tl") => `(tactic| (refine' ⟨_, _, rfl, Or.inl ⟨SqL.of ?hs, ?_⟩⟩; (case hs => tm_at "hp")))
local macro_rules | `(tactic| tm_at "set") => `(tactic| (refine' ⟨_, _, _, _, rfl, rfl, ?hs, ?hj, ?_⟩; (case hs => tm_at "hp"); (case hj => (first | rfl | exact tab_ixN (by assumption)))))
local macro_rules | `(tactic| tm_at "sz") => `(tactic| (first | exact small_ok (Nat.le_of_ble_eq_true rfl) | exact Nat.le_of_ble_eq_true rfl))
local macro_rules | `(tactic| tm_at "acc") => `(tactic| (refine' ⟨_, ?ha, ?hz, ?_⟩; (case ha => tm_at "hp"); (case hz => (first | rw [itab_len] | rw [tab_len] | rw [List.length_map] | skip); exact small_lt (by omega))))
local macro_rules | `(tactic| tm_at "ap") => `(tactic| (refine' ⟨_, _, _, rfl, rfl, ?hs, ?hz, ?_⟩; (case hs => tm_at "hp")))
local macro_rules | `(tactic| tm_at "sm") => `(tactic| (first | assumption | exact Same.refl _ | (refine Same.new ?_ (by assumption); tm_at "sm") | (refine Same.mut ?_ (by assumption); tm_at "sm")))
section
variable {P : Program} {w : World} {K : PySem.W.Frag} {mg : Str → Option Value} {base : Heap}

theorem ok_behind (D : Df K mg "behind" s_behind p_behind) (T : Tx mg) : Ca P w K mg base CX0 1 "behind" p_behind spNext := by
  obtain ⟨f0, fd0, F0, gf0, bf0⟩ := D
  refine ⟨f0, fd0, ?_, gf0, F0.kp, bf0⟩
  refine F0.ok sc_behind (fun vs H Q E h => ?_) (fun cdv A outer s0 H vs Q E hr h => ?_)
  · obtain ⟨f, sa, box, n, m, Pi, s, pa, ad, rfl, _⟩ := h
    rfl
  obtain ⟨f, sa, box, n, m, Pi, s, pa, ad, rfl, hF, hs, hm, q⟩ := h
  refine ⟨_, (pss_cons (ps_set (i := 3) sc_behind.nd rfl (.inl rfl) (pe_callTy (call_listK (K := K) rfl) (by rfl) T.z_list (by decide +kernel) (pa_cons (pv 1) pa_nil))) (pss_cons (ps_for PassesOwn.never rfl (pi_enumTK (K := K) rfl (by rfl) T.z_enumerate (pa_cons (pe_ix (ix_ltK (K := K) rfl) (pv 0) pe_int (fun _ _ => rfl)) pa_nil)) (pg_tupK (K := K) rfl (by rfl) (pgs_cons (pg_name (i := 4) sc_behind.nd rfl (.inl rfl)) (pgs_cons (pg_tupK (K := K) rfl (by rfl) (pgs_cons (pg_name (i := 5) sc_behind.nd rfl (.inl rfl)) (pgs_cons (pg_name (i := 6) sc_behind.nd rfl (.inl rfl)) (pgs_cons (pg_name (i := 7) sc_behind.nd rfl (.inl rfl)) (pgs_cons (pg_name (i := 8) sc_behind.nd rfl (.inl rfl)) (pgs_cons (pg_name (i := 9) sc_behind.nd rfl (.inl rfl)) pgs_nil)))))) pgs_nil))) (pss_one (ps_augS (pv 3) (pv 4) get_list (pe_op op_sub (pe_ifExp (pt_cmpR op_eq (pv 5) (pv 2) (nomark _)) (pv 7) pe_int) (pe_ifExp (pt_cmpR op_eq (pv 6) (pv 2) (nomark _)) (pv 8) pe_int)) ip_add set_list))) (pss_one (ps_ret (pe_callTy (call_tupleK (K := K) rfl) (by rfl) T.z_tuple (by decide +kernel) (pa_cons (pv 3) pa_nil)))))), ?_⟩
  tm_at "s"
  intro fa nfa
  tm_at "s"
  have e1 := same_new (o := .lst (itab m s)) nfa
  have F1 := hF.ts (Same.ts e1)
  tm_at "s"
  refine ⟨_, _, rfl, SqT.of F1.all, ?_⟩
  refine for_enumT (K := K) (a := pa) (xs := tab m fun k => .ref (ad k)) (fun i σ H2 => ∃ x4 x5 x6 x7 x8 x9, σ = [some (.ref f), some (.ref sa), some (.int box), some (.ref fa), x4, x5, x6, x7, x8, x9] ∧ Same H H2 ∧ H2 fa = some (.lst (itab m fun k => if k < i then nextM Pi s box k else s k))) ⟨none, none, none, none, none, none, rfl, e1, ?_⟩ ?_ ?_ ?_
  · rw [upd_same]
    exact congrArg (fun z => some (HO.lst z)) (itab_congr fun j hj => (if_neg (Nat.not_lt_zero j)).symm)
  · rintro i σ H2 hi ⟨_, _, _, _, _, _, rfl, e2, _⟩
    exact SqT.of (e2 _ _ hF.all)
  · rintro i x σ H2 t hx ⟨_, _, _, _, _, _, rfl, e2, hfa⟩ nt
    obtain ⟨hi, rfl⟩ := tab_some hx
    have e3 := Same.new (o := .tup [.int (i : Nat), .ref (ad i)]) e2 nt
    have F3 := hF.ts (Same.ts e3)
    have hfa3 := same_new (o := .tup [.int (i : Nat), .ref (ad i)]) nt _ _ hfa
    have hP := F3.pipe i hi
    unfold Pipe.vs at hP
    tm_at "s"
    refine ⟨_, _, i, _, rfl, rfl, hfa3, itab_get hi, ?_⟩
    have fin : ∀ v : Int, v = nextM Pi s box i → ∃ x4 x5 x6 x7 x8 x9 : Option V, ([some (.ref f), some (.ref sa), some (.int box), some (.ref fa), some (.int (i : Int)), some (.int (Pi i).one), some (.int (Pi i).other), some (.int (Pi i).give), some (.int (Pi i).eat), some (.int (Pi i).start)] : List (Option V)) = [some (.ref f), some (.ref sa), some (.int box), some (.ref fa), x4, x5, x6, x7, x8, x9] ∧ Same H (upd (upd H2 t (.tup [.int (i : Nat), .ref (ad i)])) fa (.lst ((itab m fun k => if k < i then nextM Pi s box k else s k).set i (.int v)))) ∧ (upd (upd H2 t (.tup [.int (i : Nat), .ref (ad i)])) fa (.lst ((itab m fun k => if k < i then nextM Pi s box k else s k).set i (.int v)))) fa = some (.lst (itab m fun k => if k < i + 1 then nextM Pi s box k else s k)) := fun v hv => by
      refine ⟨_, _, _, _, _, _, rfl, Same.mut e3 nfa, ?_⟩
      rw [upd_same, itab_set, hv]
      refine congrArg (fun z => some (HO.lst z)) (itab_congr fun j hj => ?_)
      by_cases e : j = i
      · subst e
        rw [if_pos rfl, if_pos (Nat.lt_succ_self j)]
      · rw [if_neg e]
        by_cases e2 : j < i
        · rw [if_pos e2, if_pos (by omega)]
        · rw [if_neg e2, if_neg (by omega)]
    have base0 : (if i < i then nextM Pi s box i else s i) = s i := if_neg (Nat.lt_irrefl i)
    tm_at "s"
    refine ite_eqi (fun c => ?_) (fun c => ?_)
    · tm_at "s"
      refine ite_eqi (fun c2 => ?_) (fun c2 => ?_)
      · tm_at "s"
        tm_at "set"
        refine fin _ ?_
        rw [base0]
        unfold nextM
        rw [if_pos c, if_pos c2]
        dsimp only
        omega
      · tm_at "s"
        tm_at "set"
        refine fin _ ?_
        rw [base0]
        unfold nextM
        rw [if_pos c, if_neg c2]
        dsimp only
        omega
    · tm_at "s"
      refine ite_eqi (fun c2 => ?_) (fun c2 => ?_)
      · tm_at "s"
        tm_at "set"
        refine fin _ ?_
        rw [base0]
        unfold nextM
        rw [if_neg c, if_pos c2]
        dsimp only
        omega
      · tm_at "s"
        tm_at "set"
        refine fin _ ?_
        rw [base0]
        unfold nextM
        rw [if_neg c, if_neg c2]
        dsimp only
        omega
  · rintro σ H2 ⟨_, _, _, _, _, _, rfl, e2, hfa⟩
    rw [tab_len] at hfa
    tm_at "s"
    refine ⟨_, _, rfl, .inl ⟨SqL.of hfa, fun p np => ?_⟩⟩
    refine q p _ (Same.new e2 np) ?_
    rw [upd_same]
    exact congrArg (fun z => some (HO.tup z)) (itab_congr fun j hj => if_pos hj)
end
end Rf
namespace Rf
open PySem PySem.Spec L2
local macro_rules | `(tactic| tm_at "hp") => `(tactic| (first | assumption | exact FlowAt.top (by assumption) | exact FlowAt.all (by assumption) | exact FlowAt.pipe (by assumption) _ (by assumption) | exact upd_same | (refine keep_new (by assumption) ?_; tm_at "hp")))
local macro_rules | `(tactic| tm_at "sq") => `(tactic| (first | exact .inl (by assumption) | exact .inr (by assumption) | exact .inr (SqT.of (by tm_at "hp")) | exact .inl (SqL.of (by tm_at "hp"))))
local macro_rules | `(tactic| tm_at "at") => `(tactic| (first | rfl | exact itab_at (by assumption) | exact tab_at (by assumption) | (refine itab_atI ?_ ?_ <;> assumption)))
local macro_rules | `(tactic| tm_at "ix") => `(tactic| (refine' ⟨_, _, _, _, rfl, rfl, ?hs, ?ha, ?_⟩; (case hs => tm_at "sq"); (case ha => tm_at "at")))
local macro_rules | `(tactic| tm_at "len") => `(tactic| (refine' ⟨_, _, rfl, ?hs, ?_⟩; (case hs => tm_at "sq"); (first | rw [itab_len] | rw [tab_len] | rw [List.length_map] | skip)))
local macro_rules | `(tactic| tm_at "rg") => `(tactic| (refine ⟨rg_lo, rg_hi (by omega), ?_⟩))
local macro_rules | `(tactic| tm_at "rgi") => `(tactic| (refine ⟨rgi_lo (by omega), rgi_hi (by omega), ?_⟩))
local macro_rules | `(tactic| tm_at "ut") => `(tactic| (refine' ⟨_, _, rfl, ?hs, ?hl, ?_⟩; (case hs => exact SqT.of (by tm_at "hp")); (case hl => rfl)))
local macro_rules | `(tactic| tm_at "s") => `(tactic| repeat (first | refine ⟨_, rfl, ?_⟩ | refine ⟨_, _, rfl, rfl, ?_⟩ | tm_at "ix" | tm_at "len" | tm_at "ut" | refine ⟨rfl, ?_⟩ | refine ⟨_, _, rfl, ?_⟩ | refine ⟨_, _, _, rfl, ?_⟩ | refine Or.inl ⟨_, rfl, ?_⟩ | refine ⟨Or.inl ⟨rfl, _, SqL.of (by tm_at "hp")⟩, ?_⟩))
local macro_rules | `(tactic| tm_at "tl") => `(tactic| (refine' ⟨_, _, rfl, Or.inl ⟨SqL.of ?hs, ?_⟩⟩; (case hs => tm_at "hp")))
local macro_rules | `(tactic| tm_at "set") => `(tactic| (refine' ⟨_, _, _, _, rfl, rfl, ?hs, ?hj, ?_⟩; (case hs => tm_at "hp"); (case hj => (first | rfl | exact tab_ixN (by assumption)))))
local macro_rules | `(tactic| tm_at "sz") => `(tactic| (first | exact small_ok (Nat.le_of_ble_eq_true rfl) | exact Nat.le_of_ble_eq_true rfl))
local macro_rules | `(tactic| tm_at "acc") => `(tactic| (refine' ⟨_, ?ha, ?hz, ?_⟩; (case ha => tm_at "hp"); (case hz => (first | rw [itab_len] | rw [tab_len] | rw [List.length_map] | skip); exact small_lt (by omega))))
local macro_rules | `(tactic| tm_at "ap") => `(tactic| (refine' ⟨_, _, _, rfl, rfl, ?hs, ?hz, ?_⟩; (case hs => tm_at "hp")))
local macro_rules | `(tactic| tm_at "sm") => `(tactic| (first | assumption | exact Same.refl _ | (refine Same.new ?_ (by assumption); tm_at "sm") | (refine Same.mut ?_ (by assumption); tm_at "sm")))
section
variable {P : Program} {w : World} {K : PySem.W.Frag} {mg : Str → Option Value} {base : Heap}

def spSizeIn : Nat → Sp
  | 0 => fun _ _ _ _ => False
  | d + 1 => spSize d
/-- the firings of the first i items -/
theorem Lp.size_item {l : Lp} {i : Nat} {b : Int} (h : l.drop i = .box b (l.drop (i + 1))) : (l.drop i).size = 1 + (l.drop (i + 1)).size := by
  rw [h]
  rfl
theorem step_size (d : Nat) (D : Df K mg "size_of" s_size_of p_size_of) (T : Tx mg) (C_is_in : Ca P w K mg base CX0 1 "is_in" p_is_in spIsIn) (C_size_of : Ca P w K mg base CX0 (d + 1) "size_of" p_size_of (spSizeIn d)) (N_MOST_BOXES : Cn mg "MOST_BOXES" 8) (N_MOST_TIMES : Cn mg "MOST_TIMES" 999) (N_MOST_LONG : Cn mg "MOST_LONG" 2000) : Ca P w K mg base CX0 (d + 2) "size_of" p_size_of (spSize d) := by
  obtain ⟨f_is_in, fd_is_in, G_is_in, m_is_in, k_is_in, b_is_in⟩ := C_is_in
  obtain ⟨f_size_of, fd_size_of, G_size_of, m_size_of, k_size_of, b_size_of⟩ := C_size_of
  obtain ⟨t_MOST_BOXES, c_MOST_BOXES⟩ := N_MOST_BOXES
  obtain ⟨t_MOST_TIMES, c_MOST_TIMES⟩ := N_MOST_TIMES
  obtain ⟨t_MOST_LONG, c_MOST_LONG⟩ := N_MOST_LONG
  obtain ⟨f0, fd0, F0, gf0, bf0⟩ := D
  refine ⟨f0, fd0, ?_, gf0, F0.kp, bf0⟩
  refine F0.ok sc_size_of (fun vs H Q E h => ?_) (fun cdv A outer s0 H vs Q E hr h => ?_)
  · obtain ⟨a, l, rfl, _⟩ := h
    rfl
  obtain ⟨a, l, rfl, hL, hO, hz, q⟩ := h
  refine ⟨_, (pss_cons (ps_if (pt_not (pt_val (pe_callB call_is (by rfl) T.z_isinstance (by decide +kernel) (pa_cons (pv 0) (pa_cons (pe_bltn (v := .ty "tuple") (by rfl) T.z_tuple (by decide +kernel) rfl) pa_nil))))) (pss_one (ps_ret pe_non)) pss_nil) (pss_cons (ps_set (i := 2) sc_size_of.nd rfl (.inl rfl) pe_int) (pss_cons (ps_for PassesOwn.never rfl (pi_tupK (K := K) rfl (pv 0)) (pg_name (i := 3) sc_size_of.nd rfl (.inl rfl)) (pss_cons (ps_if (pt_val (pe_call G_is_in (hr.mono (by omega)) (by rfl) m_is_in k_is_in b_is_in .nil pass0 (pa_cons (pv 3) (pa_cons pe_int (pa_cons (pe_op op_sub (pe_glob (v := .int 8) (by rfl) c_MOST_BOXES ⟨_, rfl⟩) pe_int) pa_nil))))) (pss_one (ps_aug (i := 2) sc_size_of.nd rfl (.inl rfl) pe_int ip_add)) (pss_one (ps_if (PW.pt (pw_and (pt_val (pe_callB call_is (by rfl) T.z_isinstance (by decide +kernel) (pa_cons (pv 3) (pa_cons (pe_bltn (v := .ty "tuple") (by rfl) T.z_tuple (by decide +kernel) rfl) pa_nil)))) (pw_and (pt_cmpR op_eq (pe_callB (call_lenK (K := K) rfl) (by rfl) T.z_len PySem.boot_len (pa_cons (pv 3) pa_nil)) pe_int (nomark _)) (pw_and (pt_val (pe_call G_is_in (hr.mono (by omega)) (by rfl) m_is_in k_is_in b_is_in .nil pass0 (pa_cons (pe_ix (ix_ltK (K := K) rfl) (pv 3) pe_int (fun _ _ => rfl)) (pa_cons pe_int (pa_cons (pe_glob (v := .int 999) (by rfl) c_MOST_TIMES ⟨_, rfl⟩) pa_nil))))) (pw_and1 (pt_cmpR op_gt (pv 1) pe_int (nomark _))))))) (pss_cons (ps_set (i := 4) sc_size_of.nd rfl (.inl rfl) (pe_call G_size_of (hr.mono (by omega)) (by rfl) m_size_of k_size_of b_size_of .nil pass0 (pa_cons (pe_ix (ix_ltK (K := K) rfl) (pv 3) pe_int (fun _ _ => rfl)) (pa_cons (pe_op op_sub (pv 1) pe_int) pa_nil)))) (pss_cons (ps_if (PW.pt (pw_or (pt_cmpR op_isN (pv 4) pe_non (nomark _)) (pw_or1 (pt_cmpR op_eq (pv 4) pe_int (nomark _))))) (pss_one (ps_ret pe_non)) pss_nil) (pss_one (ps_aug (i := 2) sc_size_of.nd rfl (.inl rfl) (pe_op op_mul (pe_ix (ix_ltK (K := K) rfl) (pv 3) pe_int (fun _ _ => rfl)) (pv 4)) ip_add)))) (pss_one (ps_ret pe_non))))) (pss_one (ps_if (pt_cmpR op_gt (pv 2) (pe_glob (v := .int 2000) (by rfl) c_MOST_LONG ⟨_, rfl⟩) (nomark _)) (pss_one (ps_ret pe_non)) pss_nil)))) (pss_one (ps_ret (pv 2)))))), ?_⟩
  obtain ⟨xs, hx, hA⟩ := hL
  have hxl : xs.length ≤ 2000 := by
    rw [hA.len]
    exact Nat.le_trans (Lp.len_le hO) hz
  tm_at "s"
  refine ⟨_, _, _, _, rfl, .tup _ _ hx, kb_tt, ?_⟩
  tm_at "s"
  refine ⟨⟨_, SqT.of hx⟩, ?_⟩
  refine for_tup (K := K) (a := a) (xs := xs) (fun i σ H2 => ∃ (x3 x4 : Option V) (s : Nat), σ = [some (.ref a), some (.int d), some (.int s), x3, x4] ∧ Same H H2 ∧ s + (l.drop i).size = l.size)
    ⟨none, none, 0, rfl, Same.refl _, Nat.zero_add _⟩ ?_ ?_ ?_
  · rintro i σ H2 hi ⟨_, _, _, rfl, e2, _⟩
    exact SqT.of (e2 _ _ hx)
  · rintro i x σ H2 hxi ⟨x3, x4, s, rfl, e2, hs⟩
    have hA2 := hA.ts (Same.ts e2)
    have hOi := Lp.ok_drop hO i
    rcases hA2.item hxi with ⟨b, el, rfl⟩ | ⟨t, body, p, q2, zs, el, rfl, hp, hq2, hB⟩
    · rw [el] at hs hOi
      obtain ⟨b0, b7, _⟩ := Lp.ok_box hOi
      have h1 : (Lp.box b (l.drop (i + 1))).size = 1 + (l.drop (i + 1)).size := rfl
      rw [h1] at hs
      tm_at "s"
      refine .inl ⟨b, 0, 8 - 1, rfl, ?_⟩
      rw [decide_eq_true (by omega), decide_eq_true (by omega)]
      tm_at "s"
      refine ite_dec (fun c => by dsimp only at c; omega) (fun _ => ?_)
      refine ⟨_, _, s + 1, rfl, e2, by omega⟩
    · rw [el] at hs hOi
      obtain ⟨e, rfl, t2, t9, hn, hb, hr⟩ := Lp.ok_rep hOi
      have h1 : (Lp.rep t body (l.drop (i + 1))).size = t.toNat * body.size + (l.drop (i + 1)).size := rfl
      have hb1 : 1 * body.size ≤ t.toNat * body.size := Nat.mul_le_mul_right _ (by omega)
      have hb0 := Lp.size_pos hb hn
      rw [h1] at hs
      tm_at "s"
      refine .inr ⟨p, _, 0, 8 - 1, rfl, hp, ?_⟩
      tm_at "s"
      refine ⟨_, _, _, _, rfl, .tup _ _ hp, kb_tt, ?_⟩
      tm_at "s"
      refine .inl ⟨t, 2, 999, rfl, ?_⟩
      rw [decide_eq_true (by omega), decide_eq_true (by omega)]
      tm_at "s"
      refine ite_dec (fun _ => ?_) (fun c => by omega)
      tm_at "s"
      refine ⟨q2, body, ?_, ⟨zs, hq2, hB⟩, hb, by omega, fun H3 e3 => ?_⟩
      · show [V.ref q2, .int (((e + 1 : Nat) : Int) - 1)] = _
        rw [show ((e + 1 : Nat) : Int) - 1 = (e : Int) by omega]
      have hp3 := e3 _ _ hp
      tm_at "s"
      refine ite_eqi (fun c => by omega) (fun _ => ?_)
      tm_at "s"
      refine ⟨cmul_ok (by omega) (by omega), ?_⟩
      tm_at "s"
      have hm : t * (body.size : Int) = ((t.toNat * body.size : Nat) : Int) := by
        rw [Int.natCast_mul, Int.toNat_of_nonneg (by omega)]
      rw [hm]
      refine ite_dec (fun c => by dsimp only at c; omega) (fun _ => ?_)
      refine ⟨_, _, s + t.toNat * body.size, rfl, Same.trans e2 e3, by omega⟩
  · rintro σ H2 ⟨x3, x4, s, rfl, e2, hs⟩
    rw [hA.done] at hs
    have hs' : s = l.size := hs
    subst hs'
    tm_at "s"
    exact q H2 e2
theorem ok_size_of (D : Df K mg "size_of" s_size_of p_size_of) (T : Tx mg) (C_is_in : Ca P w K mg base CX0 1 "is_in" p_is_in spIsIn) (N_MOST_BOXES : Cn mg "MOST_BOXES" 8) (N_MOST_TIMES : Cn mg "MOST_TIMES" 999) (N_MOST_LONG : Cn mg "MOST_LONG" 2000) : ∀ d, Ca P w K mg base CX0 (d + 2) "size_of" p_size_of (spSize d)
  | 0 => by
    obtain ⟨f, fd, F, gf, bf⟩ := D
    exact step_size 0 ⟨f, fd, F, gf, bf⟩ T C_is_in ⟨f, fd, fn_no (fun _ _ _ _ h => h), gf, F.kp, bf⟩ N_MOST_BOXES N_MOST_TIMES N_MOST_LONG
  | d + 1 => step_size (d + 1) D T C_is_in (ok_size_of D T C_is_in N_MOST_BOXES N_MOST_TIMES N_MOST_LONG d) N_MOST_BOXES N_MOST_TIMES N_MOST_LONG
end
end Rf
namespace Rf
open PySem PySem.Spec L2
local macro_rules | `(tactic| tm_at "hp") => `(tactic| (first | assumption | exact FlowAt.top (by assumption) | exact FlowAt.all (by assumption) | exact FlowAt.pipe (by assumption) _ (by assumption) | exact upd_same | (refine keep_new (by assumption) ?_; tm_at "hp")))
local macro_rules | `(tactic| tm_at "sq") => `(tactic| (first | exact .inl (by assumption) | exact .inr (by assumption) | exact .inr (SqT.of (by tm_at "hp")) | exact .inl (SqL.of (by tm_at "hp"))))
local macro_rules | `(tactic| tm_at "at") => `(tactic| (first | rfl | exact itab_at (by assumption) | exact tab_at (by assumption) | (refine itab_atI ?_ ?_ <;> assumption)))
local macro_rules | `(tactic| tm_at "ix") => `(tactic| (refine' ⟨_, _, _, _, rfl, rfl, ?hs, ?ha, ?_⟩; (case hs => tm_at "sq"); (case ha => tm_at "at")))
local macro_rules | `(tactic| tm_at "len") => `(tactic| (refine' ⟨_, _, rfl, ?hs, ?_⟩; (case hs => tm_at "sq"); (first | rw [itab_len] | rw [tab_len] | rw [List.length_map] | skip)))
local macro_rules | `(tactic| tm_at "rg") => `(tactic| (refine ⟨rg_lo, rg_hi (by omega), ?_⟩))
local macro_rules | `(tactic| tm_at "rgi") => `(tactic| (refine ⟨rgi_lo (by omega), rgi_hi (by omega), ?_⟩))
local macro_rules | `(tactic| tm_at "ut") => `(tactic| (refine' ⟨_, _, rfl, ?hs, ?hl, ?_⟩; (case hs => exact SqT.of (by tm_at "hp")); (case hl => rfl)))
local macro_rules | `(tactic| tm_at "s") => `(tactic| repeat (first | refine ⟨_, rfl, ?_⟩ | refine ⟨_, _, rfl, rfl, ?_⟩ | tm_at "ix" | tm_at "len" | tm_at "ut" | refine ⟨rfl, ?_⟩ | refine ⟨_, _, rfl, ?_⟩ | refine ⟨_, _, _, rfl, ?_⟩ | refine Or.inl ⟨_, rfl, ?_⟩ | refine ⟨Or.inl ⟨rfl, _, SqL.of (by tm_at "hp")⟩, ?_⟩))
local macro_rules | `(tactic| tm_at "tl") => `(tactic| (refine' ⟨_, _, rfl, Or.inl ⟨SqL.of ?hs, ?_⟩⟩; (case hs => tm_at "hp")))
local macro_rules | `(tactic| tm_at "set") => `(tactic| (refine' ⟨_, _, _, _, rfl, rfl, ?hs, ?hj, ?_⟩; (case hs => tm_at "hp"); (case hj => (first | rfl | exact tab_ixN (by assumption)))))
local macro_rules | `(tactic| tm_at "sz") => `(tactic| (first | exact small_ok (Nat.le_of_ble_eq_true rfl) | exact Nat.le_of_ble_eq_true rfl))
local macro_rules | `(tactic| tm_at "acc") => `(tactic| (refine' ⟨_, ?ha, ?hz, ?_⟩; (case ha => tm_at "hp"); (case hz => (first | rw [itab_len] | rw [tab_len] | rw [List.length_map] | skip); exact small_lt (by omega))))
local macro_rules | `(tactic| tm_at "ap") => `(tactic| (refine' ⟨_, _, _, rfl, rfl, ?hs, ?hz, ?_⟩; (case hs => tm_at "hp")))
local macro_rules | `(tactic| tm_at "sm") => `(tactic| (first | assumption | exact Same.refl _ | (refine Same.new ?_ (by assumption); tm_at "sm") | (refine Same.mut ?_ (by assumption); tm_at "sm")))
section
variable {P : Program} {w : World} {K : PySem.W.Frag} {mg : Str → Option Value} {base : Heap}

def spDeepS (d : Nat) : Sp := fun vs H Q _ => ∃ (a : Addr) (l : Lp), vs = [.ref a] ∧ LoopAt H a l ∧ l.Ok d ∧ l.size ≤ 2000 ∧ ∀ H', Same H H' → Q (.int l.depth) H'
def spDeepIn : Nat → Sp
  | 0 => fun _ _ _ _ => False
  | d + 1 => spDeepS d
theorem step_deep (d : Nat) (D : Df K mg "deep_in" s_deep_in p_deep_in) (T : Tx mg) (C_deep_in : Ca P w K mg base CX0 d "deep_in" p_deep_in (spDeepIn d)) : Ca P w K mg base CX0 (d + 1) "deep_in" p_deep_in (spDeepS d) := by
  obtain ⟨f_deep_in, fd_deep_in, G_deep_in, m_deep_in, k_deep_in, b_deep_in⟩ := C_deep_in
  obtain ⟨f0, fd0, F0, gf0, bf0⟩ := D
  refine ⟨f0, fd0, ?_, gf0, F0.kp, bf0⟩
  refine F0.ok sc_deep_in (fun vs H Q E h => ?_) (fun cdv A outer s0 H vs Q E hr h => ?_)
  · obtain ⟨a, l, rfl, _⟩ := h
    rfl
  obtain ⟨a, l, rfl, hL, hO, hz, q⟩ := h
  refine ⟨_, (pss_one (ps_ret (pe_callB (cr_maxK (K := K) rfl rfl) (by rfl) T.z_max (by decide +kernel) (pa_cons (pe_op op_cat (pe_lst (pa_cons pe_int pa_nil)) (pe_lc (own := [("item", 1)]) (g := gName 1) (by rfl) sc_deep_in.nd (pi_tupK (K := K) rfl (pv 0)) (blkOk_by (own := [("item", 1)]) (N := n_deep_in) (sc := defScope s_deep_in) (by decide +kernel)) (fun _ _ _ _ _ => pg_name (i := 1) sc_deep_in.nd rfl (Or.inl rfl)) (fun _ _ _ _ _ => pts_one (pt_val (pe_callB call_is (by rfl) T.z_isinstance (by decide +kernel) (pa_cons (pv 1) (pa_cons (pe_bltn (v := .ty "tuple") (by rfl) T.z_tuple (by decide +kernel) rfl) pa_nil))))) (fun _ _ _ _ _ => (pe_op op_add pe_int (pe_call G_deep_in (hr.mono (by omega)) (by rfl) m_deep_in k_deep_in b_deep_in .nil pass0 (pa_cons (pe_ix (ix_ltK (K := K) rfl) (pv 1) pe_int (fun _ _ => rfl)) pa_nil)))))) pa_nil)))), ?_⟩
  obtain ⟨xs, hx, hA⟩ := hL
  have hxl : xs.length ≤ 2000 := by
    rw [hA.len]
    exact Nat.le_trans (Lp.len_le hO) hz
  tm_at "s"
  refine ⟨by tm_at "sz", fun z nz => ?_⟩
  have ez := same_new (o := .lst [.int 0]) nz
  have hz0 : upd H z (.lst [.int 0]) z = some (.lst [.int 0]) := upd_same
  generalize upd H z (.lst [.int 0]) = H1 at ez hz0 ⊢
  clear nz
  tm_at "s"
  have hx1 := ez _ _ hx
  refine ⟨⟨_, SqT.of hx1⟩, fun D nD => ?_⟩
  refine lc_tup (K := K) (a := a) (xs := xs) (fun i H2 => Same H1 H2 ∧ ∃ (ks : List Int) (n : Nat), H2 D = some (.lst (ks.map V.int)) ∧ ks.length ≤ i ∧ (n = 0 ∨ (n : Int) ∈ ks) ∧ (∀ k ∈ ks, k ≤ n) ∧ max n (l.drop i).depth = l.depth) ⟨same_new nD, [], 0, upd_same, Nat.le_refl _, .inl rfl, (fun k hk => by cases hk), Nat.zero_max _⟩ ?_ ?_ ?_
  · rintro i H2 hi ⟨e2, _⟩
    exact SqT.of (e2 _ _ hx1)
  · rintro i x H2 hxi ⟨e2, ks, n, hD, hkl, hn, hk, hm⟩
    have hi := (List.getElem?_eq_some_iff.mp hxi).1
    have e02 := Same.trans ez e2
    have hA2 := hA.ts (Same.ts e02)
    have hOi := Lp.ok_drop hO i
    have hsi := Lp.size_drop l i
    refine ⟨rfl, ?_⟩
    rcases hA2.item hxi with ⟨b, el, rfl⟩ | ⟨t, body, p, q2, zs, el, rfl, hp, hq2, hB⟩
    · rw [el] at hm
      tm_at "s"
      refine ⟨_, _, _, _, rfl, .int _, kb_it, ?_⟩
      tm_at "s"
      exact ⟨e2, ks, n, hD, by omega, hn, hk, hm⟩
    · rw [el] at hm hOi hsi
      obtain ⟨e, rfl, t2, t9, hnn, hb, hr⟩ := Lp.ok_rep hOi
      have h1 : (Lp.rep t body (l.drop (i + 1))).size = t.toNat * body.size + (l.drop (i + 1)).size := rfl
      have hb1 : 1 * body.size ≤ t.toNat * body.size := Nat.mul_le_mul_right _ (by omega)
      tm_at "s"
      refine ⟨_, _, _, _, rfl, .tup _ _ hp, kb_tt, ?_⟩
      tm_at "s"
      refine ⟨q2, body, rfl, ⟨zs, hq2, hB⟩, hb, by omega, fun H3 e3 => ?_⟩
      have hD3 := e3 _ _ hD
      tm_at "s"
      refine ⟨_, hD3, small_lt (by rw [List.length_map]; omega), Same.mut (Same.trans e2 e3) nD, ks ++ [((1 + body.depth : Nat) : Int)], max n (1 + body.depth), ?_, by rw [List.length_append]; exact Nat.succ_le_succ hkl, ?_, fun k hk' => ?_, ?_⟩
      · rw [upd_same, List.map_append, Int.natCast_add]
        rfl
      · by_cases c : n ≤ 1 + body.depth
        · rw [Nat.max_eq_right c]
          exact .inr (List.mem_append.mpr (.inr (List.mem_singleton.mpr rfl)))
        · rw [Nat.max_eq_left (by omega)]
          rcases hn with rfl | hn
          · exact .inl rfl
          · exact .inr (List.mem_append.mpr (.inl hn))
      · rcases List.mem_append.mp hk' with h | h
        · have := hk k h
          omega
        · have e : k = ((1 + body.depth : Nat) : Int) := by simpa using h
          omega
      · rw [Nat.max_assoc]
        exact hm
  · rintro H2 ⟨e2, ks, n, hD, hkl, hn, hk, hm⟩
    rw [hA.done] at hm
    have hm' : n = l.depth := by
      rw [← hm]
      exact (Nat.max_zero n).symm
    subst hm'
    refine ⟨z, D, _, _, rfl, rfl, e2 _ _ hz0, hD, small_ok (by rw [List.length_map]; show 1 + _ ≤ _; omega), fun y ny => ?_⟩
    refine ⟨y, 0 :: ks, rfl, SqL.of upd_same, Nat.succ_pos _, fun m hm1 hm2 => ?_⟩
    have e : m = (l.depth : Int) := by
      apply Int.le_antisymm
      · rcases List.mem_cons.mp hm1 with rfl | h
        · exact Int.natCast_nonneg _
        · exact hk m h
      · rcases hn with h | h
        · rw [h]
          exact hm2 0 (List.mem_cons.mpr (.inl rfl))
        · exact hm2 _ (List.mem_cons.mpr (.inr h))
    subst e
    exact q _ (Same.new (Same.trans ez e2) ny)
theorem ok_deep_in (D : Df K mg "deep_in" s_deep_in p_deep_in) (T : Tx mg) : ∀ d, Ca P w K mg base CX0 (d + 1) "deep_in" p_deep_in (spDeepS d)
  | 0 => by
    obtain ⟨f, fd, F, gf, bf⟩ := D
    exact step_deep 0 ⟨f, fd, F, gf, bf⟩ T ⟨f, fd, fn_no (fun _ _ _ _ h => h), gf, F.kp, bf⟩
  | d + 1 => step_deep (d + 1) D T (ok_deep_in D T d)
end
end Rf
namespace Rf
open PySem PySem.Spec L2
local macro_rules | `(tactic| tm_at "hp") => `(tactic| (first | assumption | exact FlowAt.top (by assumption) | exact FlowAt.all (by assumption) | exact FlowAt.pipe (by assumption) _ (by assumption) | exact upd_same | (refine keep_new (by assumption) ?_; tm_at "hp")))
local macro_rules | `(tactic| tm_at "sq") => `(tactic| (first | exact .inl (by assumption) | exact .inr (by assumption) | exact .inr (SqT.of (by tm_at "hp")) | exact .inl (SqL.of (by tm_at "hp"))))
local macro_rules | `(tactic| tm_at "at") => `(tactic| (first | rfl | exact itab_at (by assumption) | exact tab_at (by assumption) | (refine itab_atI ?_ ?_ <;> assumption)))
local macro_rules | `(tactic| tm_at "ix") => `(tactic| (refine' ⟨_, _, _, _, rfl, rfl, ?hs, ?ha, ?_⟩; (case hs => tm_at "sq"); (case ha => tm_at "at")))
local macro_rules | `(tactic| tm_at "len") => `(tactic| (refine' ⟨_, _, rfl, ?hs, ?_⟩; (case hs => tm_at "sq"); (first | rw [itab_len] | rw [tab_len] | rw [List.length_map] | skip)))
local macro_rules | `(tactic| tm_at "rg") => `(tactic| (refine ⟨rg_lo, rg_hi (by omega), ?_⟩))
local macro_rules | `(tactic| tm_at "rgi") => `(tactic| (refine ⟨rgi_lo (by omega), rgi_hi (by omega), ?_⟩))
local macro_rules | `(tactic| tm_at "ut") => `(tactic| (refine' ⟨_, _, rfl, ?hs, ?hl, ?_⟩; (case hs => exact SqT.of (by tm_at "hp")); (case hl => rfl)))
local macro_rules | `(tactic| tm_at "s") => `(tactic| repeat (first | refine ⟨_, rfl, ?_⟩ | refine ⟨_, _, rfl, rfl, ?_⟩ | tm_at "ix" | tm_at "len" | tm_at "ut" | refine ⟨rfl, ?_⟩ | refine ⟨_, _, rfl, ?_⟩ | refine ⟨_, _, _, rfl, ?_⟩ | refine Or.inl ⟨_, rfl, ?_⟩ | refine ⟨Or.inl ⟨rfl, _, SqL.of (by tm_at "hp")⟩, ?_⟩))
local macro_rules | `(tactic| tm_at "tl") => `(tactic| (refine' ⟨_, _, rfl, Or.inl ⟨SqL.of ?hs, ?_⟩⟩; (case hs => tm_at "hp")))
local macro_rules | `(tactic| tm_at "set") => `(tactic| (refine' ⟨_, _, _, _, rfl, rfl, ?hs, ?hj, ?_⟩; (case hs => tm_at "hp"); (case hj => (first | rfl | exact tab_ixN (by assumption)))))
local macro_rules | `(tactic| tm_at "sz") => `(tactic| (first | exact small_ok (Nat.le_of_ble_eq_true rfl) | exact Nat.le_of_ble_eq_true rfl))
local macro_rules | `(tactic| tm_at "acc") => `(tactic| (refine' ⟨_, ?ha, ?hz, ?_⟩; (case ha => tm_at "hp"); (case hz => (first | rw [itab_len] | rw [tab_len] | rw [List.length_map] | skip); exact small_lt (by omega))))
local macro_rules | `(tactic| tm_at "ap") => `(tactic| (refine' ⟨_, _, _, rfl, rfl, ?hs, ?hz, ?_⟩; (case hs => tm_at "hp")))
local macro_rules | `(tactic| tm_at "sm") => `(tactic| (first | assumption | exact Same.refl _ | (refine Same.new ?_ (by assumption); tm_at "sm") | (refine Same.mut ?_ (by assumption); tm_at "sm")))
section
variable {P : Program} {w : World} {K : PySem.W.Frag} {mg : Str → Option Value} {base : Heap}

/-- a fold: a cost, looped code of s firings -/
def FoldAt (H : Hp) (r : Addr) (s : Nat) : Prop := ∃ (c : Int) (a : Addr) (l : Lp), H r = some (.tup [.int c, .ref a]) ∧ LoopAt H a l ∧ l.Ok 8 ∧ l.size = s
theorem FoldAt.ts {H H' : Hp} {r : Addr} {s : Nat} (h : FoldAt H r s) (e : Ts H H') : FoldAt H' r s := by
  obtain ⟨c, a, l, h1, h2, h3, h4⟩ := h
  exact ⟨c, a, l, e _ _ h1, h2.ts e, h3, h4⟩
def ky (a s : Nat) : List Key := [.inl (a : Int), .inl (s : Int)]
/-- the folds of the stretches shorter than n of a word of L boxes -/
def Folds (H : Hp) (kvs : List (List Key × V)) (L n : Nat) : Prop := ∀ a s : Nat, 1 ≤ s → s < n → a + s ≤ L → ∃ fp, valV kvs (ky a s) = some (.ref fp) ∧ FoldAt H fp s
theorem Folds.ts {H H' : Hp} {kvs : List (List Key × V)} {L n : Nat} (h : Folds H kvs L n) (e : Ts H H') : Folds H' kvs L n := fun a s h1 h2 h3 => by
  obtain ⟨fp, h4, h5⟩ := h a s h1 h2 h3
  exact ⟨fp, h4, h5.ts e⟩
theorem dget_t {H : Hp} {d b : Addr} {kvs : List (List Key × V)} {a s : Nat} {x y : Int} {v : V} (h : H d = some (.dT kvs)) (hb : H b = some (.tup [.int x, .int y])) (ex : x = a) (ey : y = s) (hv : valV kvs (ky a s) = some v) : DGet H d (.ref b) (some v) := by
  subst ex ey
  rw [← hv]
  exact DGet.t (k := ky a s) h hb
theorem Lp.ok_depth : ∀ {l : Lp} {d e : Nat}, l.Ok d → l.depth ≤ e → l.Ok e
  | .nil, _, _, _, _ => Lp.nil_ok
  | .box b r, _, _, h, hd => Lp.box_ok ⟨(Lp.ok_box h).1, (Lp.ok_box h).2.1, Lp.ok_depth (Lp.ok_box h).2.2 hd⟩
  | .rep t body r, _, e, h, hd => by
    obtain ⟨d', rfl, h1, h2, h3, h4, h5⟩ := Lp.ok_rep h
    have hd' : max (1 + body.depth) r.depth ≤ e := hd
    obtain ⟨e', rfl⟩ : ∃ e', e = e' + 1 := ⟨e - 1, by omega⟩
    exact Lp.rep_ok ⟨h1, h2, h3, Lp.ok_depth h4 (by omega), Lp.ok_depth h5 (by omega)⟩
def spBest : Sp := fun vs H Q _ => ∃ (p bd : Addr) (ws : List Int) (at' size : Nat) (kvs : List (List Key × V)), vs = [.ref p, .int at', .int size, .ref bd] ∧ H p = some (.tup (ws.map V.int)) ∧ ws.length ≤ 14 ∧ (∀ b ∈ ws, 0 ≤ b ∧ b ≤ 7) ∧ 1 ≤ size ∧ at' + size ≤ ws.length ∧
  H bd = some (.dT kvs) ∧ Folds H kvs ws.length size ∧ ∀ r H', Same H H' → FoldAt H' r size → Q (.ref r) H'
theorem ok_best_fold (D : Df K mg "best_fold" s_best_fold p_best_fold) (T : Tx mg) (C_deep_in : Ca P w K mg base CX0 9 "deep_in" p_deep_in (spDeepS 8)) (N_MOST_TIMES : Cn mg "MOST_TIMES" 999) (N_MOST_DEEP : Cn mg "MOST_DEEP" 8) : Ca P w K mg base CX0 10 "best_fold" p_best_fold spBest := by
  obtain ⟨f_deep_in, fd_deep_in, G_deep_in, m_deep_in, k_deep_in, b_deep_in⟩ := C_deep_in
  obtain ⟨t_MOST_TIMES, c_MOST_TIMES⟩ := N_MOST_TIMES
  obtain ⟨t_MOST_DEEP, c_MOST_DEEP⟩ := N_MOST_DEEP
  obtain ⟨f0, fd0, F0, gf0, bf0⟩ := D
  refine ⟨f0, fd0, ?_, gf0, F0.kp, bf0⟩
  refine F0.ok sc_best_fold (fun vs H Q E h => ?_) (fun cdv A outer s0 H vs Q E hr h => ?_)
  · obtain ⟨p, bd, ws, a, z, kvs, rfl, _⟩ := h
    rfl
  obtain ⟨p, bd, ws, a, z, kvs, rfl, hp, hl, hb, z1, haz, hbd, hF, q⟩ := h
  refine ⟨_, (pss_cons (ps_if (pt_cmpR op_eq (pv 2) pe_int (nomark _)) (pss_one (ps_ret (pe_tup (pa_cons pe_int (pa_cons (pe_tup (pa_cons (pe_ix (ix_ltK (K := K) rfl) (pv 0) (pv 1) (fun _ _ => rfl)) pa_nil)) pa_nil))))) pss_nil) (pss_cons (ps_set (i := 4) sc_best_fold.nd rfl (.inl rfl) pe_non) (pss_cons (ps_for PassesOwn.never rfl (pi_range2 (by rfl) T.z_range (pa_cons pe_int (pa_cons (pv 2) pa_nil))) (pg_name (i := 5) sc_best_fold.nd rfl (.inl rfl)) (pss_cons (ps_par (i := 6) (j := 7) (by rfl) sc_best_fold.nd rfl rfl (by decide) rfl rfl (pa_cons (pe_dget (hu_of hr) (pv 3) (pe_tup (pa_cons (pv 1) (pa_cons (pv 5) pa_nil))) (fun _ _ => rfl)) (pa_cons (pe_dget (hu_of hr) (pv 3) (pe_tup (pa_cons (pe_op op_add (pv 1) (pv 5)) (pa_cons (pe_op op_sub (pv 2) (pv 5)) pa_nil))) (fun _ _ => rfl)) pa_nil)) (by rfl)) (pss_one (ps_if (PW.pt (pw_or (pt_cmpR op_isN (pv 4) pe_non (nomark _)) (pw_or1 (pt_cmpR op_lt (pe_op op_add (pe_ix (ix_ltK (K := K) rfl) (pv 6) pe_int (fun _ _ => rfl)) (pe_ix (ix_ltK (K := K) rfl) (pv 7) pe_int (fun _ _ => rfl))) (pe_ix (ix_ltK (K := K) rfl) (pv 4) pe_int (fun _ _ => rfl)) (nomark _))))) (pss_one (ps_set (i := 4) sc_best_fold.nd rfl (.inl rfl) (pe_tup (pa_cons (pe_op op_add (pe_ix (ix_ltK (K := K) rfl) (pv 6) pe_int (fun _ _ => rfl)) (pe_ix (ix_ltK (K := K) rfl) (pv 7) pe_int (fun _ _ => rfl))) (pa_cons (pe_op (op_catK (K := K) rfl) (pe_ix (ix_ltK (K := K) rfl) (pv 6) pe_int (fun _ _ => rfl)) (pe_ix (ix_ltK (K := K) rfl) (pv 7) pe_int (fun _ _ => rfl))) pa_nil))))) pss_nil)))) (pss_cons (ps_for PassesOwn.never rfl (pi_range2 (by rfl) T.z_range (pa_cons pe_int (pa_cons (pv 2) pa_nil))) (pg_name (i := 8) sc_best_fold.nd rfl (.inl rfl)) (pss_one (ps_if (PW.pt (pw_and (pt_cmpR op_eq (pe_op op_mod (pv 2) (pv 8)) pe_int (nomark _)) (pw_and1 (pt_cmpR (op_eqK (K := K) rfl hr.units) (pe_op (op_repK (K := K) rfl) (pe_slice (sl_tupK (K := K) rfl) (pv 0) (po_some (pv 1)) (po_some (pe_op op_add (pv 1) (pv 8)))) (pe_op op_fdivW (pv 2) (pv 8))) (pe_slice (sl_tupK (K := K) rfl) (pv 0) (po_some (pv 1)) (po_some (pe_op op_add (pv 1) (pv 2)))) (nomark _))))) (pss_cons (ps_set (i := 9) sc_best_fold.nd rfl (.inl rfl) (pe_dget (hu_of hr) (pv 3) (pe_tup (pa_cons (pv 1) (pa_cons (pv 8) pa_nil))) (fun _ _ => rfl))) (pss_one (ps_if (PW.pt (pw_and (pt_cmpR op_lt (pe_ix (ix_ltK (K := K) rfl) (pv 9) pe_int (fun _ _ => rfl)) (pe_ix (ix_ltK (K := K) rfl) (pv 4) pe_int (fun _ _ => rfl)) (nomark _)) (pw_and (pt_cmpR op_le (pe_op op_fdivW (pv 2) (pv 8)) (pe_glob (v := .int 999) (by rfl) c_MOST_TIMES ⟨_, rfl⟩) (nomark _)) (pw_and1 (pt_cmpR op_lt (pe_call G_deep_in (hr.mono (by decide)) (by rfl) m_deep_in k_deep_in b_deep_in .nil pass0 (pa_cons (pe_ix (ix_ltK (K := K) rfl) (pv 9) pe_int (fun _ _ => rfl)) pa_nil)) (pe_glob (v := .int 8) (by rfl) c_MOST_DEEP ⟨_, rfl⟩) (nomark _)))))) (pss_one (ps_set (i := 4) sc_best_fold.nd rfl (.inl rfl) (pe_tup (pa_cons (pe_ix (ix_ltK (K := K) rfl) (pv 9) pe_int (fun _ _ => rfl)) (pa_cons (pe_tup (pa_cons (pe_tup (pa_cons (pe_op op_fdivW (pv 2) (pv 8)) (pa_cons (pe_ix (ix_ltK (K := K) rfl) (pv 9) pe_int (fun _ _ => rfl)) pa_nil))) pa_nil)) pa_nil))))) pss_nil))) pss_nil))) (pss_one (ps_ret (pv 4))))))), ?_⟩
  tm_at "s"
  refine ite_eqi (fun c => ?_) (fun c => ?_)
  · have hz : z = 1 := by omega
    subst hz
    have hwa : ws[a]? = some (ws[a]'(by omega)) := List.getElem?_eq_getElem _
    obtain ⟨b0, b7⟩ := hb _ (List.mem_of_getElem? hwa)
    have hat : atI (ws.map V.int) (a : Int) = some (.int (ws[a]'(by omega))) := atI_nat (by rw [List.getElem?_map, hwa]; rfl)
    tm_at "s"
    refine ⟨_, _, _, _, rfl, rfl, .inr (SqT.of hp), hat, ?_⟩
    refine ⟨by tm_at "sz", fun t nt => ?_⟩
    refine ⟨by tm_at "sz", fun r nr => ?_⟩
    refine q r _ (Same.new (same_new nt) nr) ⟨1, t, .box (ws[a]'(by omega)) .nil, upd_same, ⟨_, keep_new nr upd_same, [], rfl, rfl⟩, Lp.box_ok ⟨b0, b7, Lp.nil_ok⟩, rfl⟩
  · have hz2 : 2 ≤ z := by omega
    tm_at "s"
    refine ⟨⟨rgi_lo (by decide), rgi_hi (by decide), rgi_lo (by omega), rgi_hi (by omega)⟩, ?_⟩
    rw [show ((z : Int) - 1).toNat = z - 1 by omega]
    refine for_range (lo := 1) (n := z - 1) (fun i σ H2 => ∃ (x5 x6 x7 : Option V) (v4 : V), σ = [some (.ref p), some (.int a), some (.int z), some (.ref bd), some v4, x5, x6, x7, none, none] ∧ Same H H2 ∧ (i = 0 → v4 = .non) ∧ (0 < i → ∃ r, v4 = .ref r ∧ FoldAt H2 r z))
      ⟨none, none, none, .non, rfl, Same.refl _, fun _ => rfl, fun h => absurd h (Nat.lt_irrefl 0)⟩ ?_ ?_
    · rintro i σ H2 hi ⟨x5, x6, x7, v4, rfl, e2, hv0, hv1⟩
      have T2 := Same.ts e2
      obtain ⟨fl, kv1, F1⟩ := hF a (1 + i) (by omega) (by omega) (by omega)
      obtain ⟨fr, kv2, F2⟩ := hF (a + (1 + i)) (z - (1 + i)) (by omega) (by omega) (by omega)
      tm_at "s"
      refine ⟨by tm_at "sz", fun k1 nk1 => ?_⟩
      have e3 := Same.new (o := .tup [.int (a : Int), .int (1 + (i : Int))]) e2 nk1
      have f3 := same_new (o := .tup [.int (a : Int), .int (1 + (i : Int))]) nk1
      refine ⟨bd, _, rfl, dget_t (a := a) (s := 1 + i) (e3 _ _ hbd) upd_same rfl (by omega) kv1, ?_⟩
      generalize upd H2 k1 (.tup [.int (a : Int), .int (1 + (i : Int))]) = H3 at e3 f3 ⊢
      tm_at "s"
      refine ⟨by tm_at "sz", fun k2 nk2 => ?_⟩
      have e4 := Same.new (o := .tup [.int ((a : Int) + (1 + (i : Int))), .int ((z : Int) - (1 + (i : Int)))]) e3 nk2
      have f4 := Same.new (o := .tup [.int ((a : Int) + (1 + (i : Int))), .int ((z : Int) - (1 + (i : Int)))]) f3 nk2
      refine ⟨bd, _, rfl, dget_t (a := a + (1 + i)) (s := z - (1 + i)) (e4 _ _ hbd) upd_same (by omega) (by omega) kv2, ?_⟩
      generalize upd H3 k2 (.tup [.int ((a : Int) + (1 + (i : Int))), .int ((z : Int) - (1 + (i : Int)))]) = H4 at e4 f4 ⊢
      obtain ⟨c1, a1, l1, g1, ⟨xs1, g2, g3⟩, o1, s1⟩ := F1.ts (Same.ts e4)
      obtain ⟨c2, a2, l2, j1, ⟨xs2, j2, j3⟩, o2, s2⟩ := F2.ts (Same.ts e4)
      have ln1 := Lp.len_le o1
      have ln2 := Lp.len_le o2
      rw [← g3.len] at ln1
      rw [← j3.len] at ln2
      clear nk1 nk2 e3
      by_cases hi0 : i = 0
      · rw [hv0 hi0] at *
        tm_at "s"
        refine st_cat g2 j2 (by omega) fun t5 H5 e5 h5 => ?_
        refine ⟨by tm_at "sz", fun t6 n6 => ?_⟩
        have e6 := Same.new (o := .tup [.int (c1 + c2), .ref t5]) (Same.trans e4 e5) n6
        have e56 := Same.new (o := .tup [.int (c1 + c2), .ref t5]) e5 n6
        exact ⟨_, _, _, .ref t6, rfl, e6, fun h => absurd h (Nat.succ_ne_zero _), fun _ => ⟨t6, rfl, _, _, _, upd_same, ⟨_, keep_new n6 h5, Lp.At.app (j3.ts (Same.ts e56)) (g3.ts (Same.ts e56))⟩, Lp.ok_app o2 o1, by rw [Lp.size_app]; omega⟩⟩
      · obtain ⟨r, rfl, hr4⟩ := hv1 (by omega)
        obtain ⟨c3, a3, l3, i1, i2, o3, s3⟩ := hr4.ts (Same.ts f4)
        tm_at "s"
        refine ite_dec (fun c => ?_) (fun c => ?_)
        · skip
          tm_at "s"
          refine st_cat g2 j2 (by omega) fun t5 H5 e5 h5 => ?_
          refine ⟨by tm_at "sz", fun t6 n6 => ?_⟩
          have e6 := Same.new (o := .tup [.int (c1 + c2), .ref t5]) (Same.trans e4 e5) n6
          have e56 := Same.new (o := .tup [.int (c1 + c2), .ref t5]) e5 n6
          exact ⟨_, _, _, .ref t6, rfl, e6, fun h => absurd h (Nat.succ_ne_zero _), fun _ => ⟨t6, rfl, _, _, _, upd_same, ⟨_, keep_new n6 h5, Lp.At.app (j3.ts (Same.ts e56)) (g3.ts (Same.ts e56))⟩, Lp.ok_app o2 o1, by rw [Lp.size_app]; omega⟩⟩
        · exact ⟨_, _, _, .ref r, rfl, e4, fun h => absurd h (Nat.succ_ne_zero _), fun _ => ⟨r, rfl, c3, a3, l3, i1, i2, o3, s3⟩⟩
    · rintro σ H2 ⟨x5, x6, x7, v4, rfl, e2, _, hv1⟩
      obtain ⟨r, rfl, Fr⟩ := hv1 (by omega)
      tm_at "s"
      refine ⟨⟨rgi_lo (by decide), rgi_hi (by decide), rgi_lo (by omega), rgi_hi (by omega)⟩, ?_⟩
      rw [show ((z : Int) - 1).toNat = z - 1 by omega]
      refine for_range (lo := 1) (n := z - 1) (fun i σ H3 => ∃ (x8 x9 : Option V) (r : Addr), σ = [some (.ref p), some (.int a), some (.int z), some (.ref bd), some (.ref r), x5, x6, x7, x8, x9] ∧ Same H H3 ∧ FoldAt H3 r z)
        ⟨none, none, r, rfl, e2, Fr⟩ ?_ ?_
      · clear Fr e2
        rintro i σ H2 hi ⟨x8, x9, r, rfl, e2, Fr⟩
        have hp2 := e2 _ _ hp
        tm_at "s"
        refine ⟨by omega, ?_⟩
        tm_at "s"
        refine ite_eqi (fun c => ?_) (fun c => ?_)
        · have hdv : CDivW (z : Int) (1 + (i : Int)) := wide_div (b := 100) (by omega) (by omega) (by decide) (by decide)
          have hzn : z % (1 + i) = 0 := by
            have : ((z % (1 + i) : Nat) : Int) = 0 := by
              rw [Int.natCast_emod, Int.natCast_add]
              exact c
            omega
          have hq : (z : Int) / (1 + (i : Int)) = ((z / (1 + i) : Nat) : Int) := by
            rw [Int.natCast_ediv, Int.natCast_add]
            rfl
          have hmul : z / (1 + i) * (1 + i) = z := Nat.div_mul_cancel (Nat.dvd_of_mod_eq_zero hzn)
          have hq2 : 2 ≤ z / (1 + i) := by
            rcases Nat.lt_or_ge (z / (1 + i)) 2 with h | h
            · have : z / (1 + i) * (1 + i) ≤ 1 * (1 + i) := Nat.mul_le_mul_right _ (by omega)
              omega
            · exact h
          have hq14 : z / (1 + i) ≤ 14 := Nat.le_trans (Nat.div_le_self _ _) (by omega)
          tm_at "s"
          refine st_slice hp2 fun p1 H3 e3 h3 => ?_
          rw [show (a : Int) + (1 + (i : Int)) = ((a + (1 + i) : Nat) : Int) by omega, cut_mid (by rw [List.length_map]; omega) (by rw [List.length_map]; omega), ← List.map_drop, ← List.map_take, show a + (1 + i) - a = 1 + i by omega] at h3
          have hlu : ((ws.drop a).take (1 + i)).length = 1 + i := by
            rw [List.length_take, List.length_drop]
            omega
          generalize (ws.drop a).take (1 + i) = us at h3 hlu
          tm_at "s"
          refine ⟨hdv, ?_⟩
          refine ⟨p1, _, _, rfl, congrArg V.int hq, SqT.of h3, ?_, by omega, by omega, by rw [List.length_map]; omega, fun p2 n2 => ?_⟩
          · intro h
            have := congrArg List.length h
            rw [List.length_map, List.length_nil] at this
            omega
          have e4 := same_new (o := .tup (List.replicate ((z / (1 + i) : Nat) : Int).toNat (us.map V.int)).flatten) n2
          have h4 : upd H3 p2 (.tup (List.replicate ((z / (1 + i) : Nat) : Int).toNat (us.map V.int)).flatten) p2 = some (.tup ((List.replicate (z / (1 + i)) us).flatten.map V.int)) := by
            rw [upd_same, Int.toNat_natCast, List.map_flatten, List.map_replicate]
          generalize upd H3 p2 (.tup (List.replicate ((z / (1 + i) : Nat) : Int).toNat (us.map V.int)).flatten) = H4 at e4 h4 ⊢
          have e24 := Same.trans e3 e4
          have hp4 := e24 _ _ hp2
          tm_at "s"
          refine st_slice hp4 fun p3 H5 e5 h5 => ?_
          rw [show (a : Int) + (z : Int) = ((a + z : Nat) : Int) by omega, cut_mid (by rw [List.length_map]; omega) (by rw [List.length_map]; omega), ← List.map_drop, ← List.map_take] at h5
          refine st_eqT (e5 _ _ h4) h5 ?_
          have e25 := Same.trans e24 e5
          have Fr5 := Fr.ts (Same.ts e25)
          have e05 := Same.trans e2 e25
          tm_at "s"
          refine ite_dec (fun _ => ?_) (fun _ => ?_)
          · obtain ⟨fi, kv1, F1⟩ := hF a (1 + i) (by omega) (by omega) (by omega)
            tm_at "s"
            refine ⟨by tm_at "sz", fun k1 nk1 => ?_⟩
            have e6 := Same.new (o := .tup [.int (a : Int), .int (1 + (i : Int))]) e05 nk1
            have f6 := same_new (o := .tup [.int (a : Int), .int (1 + (i : Int))]) nk1
            refine ⟨bd, _, rfl, dget_t (a := a) (s := 1 + i) (e6 _ _ hbd) upd_same rfl (by omega) kv1, ?_⟩
            generalize upd H5 k1 (.tup [.int (a : Int), .int (1 + (i : Int))]) = H6 at e6 f6 ⊢
            obtain ⟨c1, a1, l1, g1, g2, o1, s1⟩ := F1.ts (Same.ts e6)
            obtain ⟨c3, a3, l3, i1, i2, o3, s3⟩ := Fr5.ts (Same.ts f6)
            tm_at "s"
            refine ite_dec (fun _ => ?_) (fun _ => ?_)
            · tm_at "s"
              refine ⟨hdv, ?_⟩
              tm_at "s"
              refine ite_dec (fun _ => ?_) (fun c => absurd (show (z : Int) / (1 + (i : Int)) ≤ 999 by rw [hq]; omega) c)
              tm_at "s"
              refine ⟨a1, l1, rfl, g2, o1, by omega, fun H7 e7 => ?_⟩
              have g17 := e7 _ _ g1
              have e07 := Same.trans e6 e7
              tm_at "s"
              refine ite_dec (fun c8 => ?_) (fun _ => ?_)
              · tm_at "s"
                refine ⟨hdv, ?_⟩
                tm_at "s"
                refine ⟨by tm_at "sz", fun t1 nt1 => ?_⟩
                have e8 := same_new (o := .tup [.int ((z : Int) / (1 + (i : Int))), .ref a1]) nt1
                have h8 : upd H7 t1 (.tup [.int ((z : Int) / (1 + (i : Int))), .ref a1]) t1 = some (.tup [.int ((z : Int) / (1 + (i : Int))), .ref a1]) := upd_same
                refine ⟨by tm_at "sz", fun t2 nt2 => ?_⟩
                have e9 := Same.new (o := .tup [.ref t1]) e8 nt2
                refine ⟨by tm_at "sz", fun t3 nt3 => ?_⟩
                have e10 := Same.new (o := .tup [.int c1, .ref t2]) e9 nt3
                obtain ⟨ys, y1, y2⟩ := (g2.ts (Same.ts e7)).ts (Same.ts e10)
                refine ⟨_, _, t3, rfl, Same.trans e07 e10, c1, t2, .rep ((z : Int) / (1 + (i : Int))) l1 .nil, upd_same, ⟨_, keep_new nt3 upd_same, t1, a1, ys, [], rfl, keep_new nt3 (keep_new nt2 h8), y1, y2, rfl⟩, Lp.rep_ok ⟨by rw [hq]; omega, by rw [hq]; omega, ?_, Lp.ok_depth o1 (by omega), Lp.nil_ok⟩, ?_⟩
                · rintro rfl
                  have : Lp.nil.size = 0 := rfl
                  omega
                · show ((z : Int) / (1 + (i : Int))).toNat * l1.size + 0 = z
                  rw [s1, hq, Int.toNat_natCast, Nat.add_zero]
                  exact hmul
              · exact ⟨_, _, r, rfl, e07, c3, a3, l3, e7 _ _ i1, i2.ts (Same.ts e7), o3, s3⟩
            · exact ⟨_, _, r, rfl, e6, c3, a3, l3, i1, i2, o3, s3⟩
          · exact ⟨_, _, r, rfl, e05, Fr5⟩
        · exact ⟨_, _, r, rfl, e2, Fr⟩
      · rintro σ H3 ⟨x8, x9, r, rfl, e3, Fr⟩
        tm_at "s"
        exact q r H3 e3 Fr
end
end Rf
namespace Rf
open PySem PySem.Spec L2
local macro_rules | `(tactic| tm_at "hp") => `(tactic| (first | assumption | exact FlowAt.top (by assumption) | exact FlowAt.all (by assumption) | exact FlowAt.pipe (by assumption) _ (by assumption) | exact upd_same | (refine keep_new (by assumption) ?_; tm_at "hp")))
local macro_rules | `(tactic| tm_at "sq") => `(tactic| (first | exact .inl (by assumption) | exact .inr (by assumption) | exact .inr (SqT.of (by tm_at "hp")) | exact .inl (SqL.of (by tm_at "hp"))))
local macro_rules | `(tactic| tm_at "at") => `(tactic| (first | rfl | exact itab_at (by assumption) | exact tab_at (by assumption) | (refine itab_atI ?_ ?_ <;> assumption)))
local macro_rules | `(tactic| tm_at "ix") => `(tactic| (refine' ⟨_, _, _, _, rfl, rfl, ?hs, ?ha, ?_⟩; (case hs => tm_at "sq"); (case ha => tm_at "at")))
local macro_rules | `(tactic| tm_at "len") => `(tactic| (refine' ⟨_, _, rfl, ?hs, ?_⟩; (case hs => tm_at "sq"); (first | rw [itab_len] | rw [tab_len] | rw [List.length_map] | skip)))
local macro_rules | `(tactic| tm_at "rg") => `(tactic| (refine ⟨rg_lo, rg_hi (by omega), ?_⟩))
local macro_rules | `(tactic| tm_at "rgi") => `(tactic| (refine ⟨rgi_lo (by omega), rgi_hi (by omega), ?_⟩))
local macro_rules | `(tactic| tm_at "ut") => `(tactic| (refine' ⟨_, _, rfl, ?hs, ?hl, ?_⟩; (case hs => exact SqT.of (by tm_at "hp")); (case hl => rfl)))
local macro_rules | `(tactic| tm_at "s") => `(tactic| repeat (first | refine ⟨_, rfl, ?_⟩ | refine ⟨_, _, rfl, rfl, ?_⟩ | tm_at "ix" | tm_at "len" | tm_at "ut" | refine ⟨rfl, ?_⟩ | refine ⟨_, _, rfl, ?_⟩ | refine ⟨_, _, _, rfl, ?_⟩ | refine Or.inl ⟨_, rfl, ?_⟩ | refine ⟨Or.inl ⟨rfl, _, SqL.of (by tm_at "hp")⟩, ?_⟩))
local macro_rules | `(tactic| tm_at "tl") => `(tactic| (refine' ⟨_, _, rfl, Or.inl ⟨SqL.of ?hs, ?_⟩⟩; (case hs => tm_at "hp")))
local macro_rules | `(tactic| tm_at "set") => `(tactic| (refine' ⟨_, _, _, _, rfl, rfl, ?hs, ?hj, ?_⟩; (case hs => tm_at "hp"); (case hj => (first | rfl | exact tab_ixN (by assumption)))))
local macro_rules | `(tactic| tm_at "sz") => `(tactic| (first | exact small_ok (Nat.le_of_ble_eq_true rfl) | exact Nat.le_of_ble_eq_true rfl))
local macro_rules | `(tactic| tm_at "acc") => `(tactic| (refine' ⟨_, ?ha, ?hz, ?_⟩; (case ha => tm_at "hp"); (case hz => (first | rw [itab_len] | rw [tab_len] | rw [List.length_map] | skip); exact small_lt (by omega))))
local macro_rules | `(tactic| tm_at "ap") => `(tactic| (refine' ⟨_, _, _, rfl, rfl, ?hs, ?hz, ?_⟩; (case hs => tm_at "hp")))
local macro_rules | `(tactic| tm_at "sm") => `(tactic| (first | assumption | exact Same.refl _ | (refine Same.new ?_ (by assumption); tm_at "sm") | (refine Same.mut ?_ (by assumption); tm_at "sm")))
section
variable {P : Program} {w : World} {K : PySem.W.Frag} {mg : Str → Option Value} {base : Heap}

def spFolds : Sp := fun vs H Q _ => ∃ (p : Addr) (ws : List Int), vs = [.ref p] ∧ H p = some (.tup (ws.map V.int)) ∧ ws.length ≤ 14 ∧ (∀ b ∈ ws, 0 ≤ b ∧ b ≤ 7) ∧
  ∀ (bd : Addr) (kvs : List (List Key × V)) (H' : Hp), Same H H' → H' bd = some (.dT kvs) → Folds H' kvs ws.length (ws.length + 1) → Q (.ref bd) H'
def spShort : Sp := fun vs H Q _ => ∃ (p : Addr) (ws : List Int), vs = [.ref p] ∧ H p = some (.tup (ws.map V.int)) ∧ ws.length ≤ 14 ∧ (∀ b ∈ ws, 0 ≤ b ∧ b ≤ 7) ∧ ∀ H', Same H H' → Q .non H'
/-- the folds as far as the loops have come: those shorter than n, and of the size n those at places below j -/
def FoldsTo (H : Hp) (kvs : List (List Key × V)) (L n j : Nat) : Prop := ∀ a s : Nat, 1 ≤ s → (s < n ∨ s = n ∧ a < j) → a + s ≤ L → ∃ fp, valV kvs (ky a s) = some (.ref fp) ∧ FoldAt H fp s
theorem ky_inj {a s b t : Nat} : ky a s = ky b t ↔ a = b ∧ s = t := by
  unfold ky
  constructor
  · intro h
    injection h with h1 h2
    injection h2 with h2 _
    injection h1 with h1
    injection h2 with h2
    exact ⟨by omega, by omega⟩
  · rintro ⟨rfl, rfl⟩
    rfl
theorem ok_folds_of (D : Df K mg "folds_of" s_folds_of p_folds_of) (T : Tx mg) (C_best_fold : Ca P w K mg base CX0 10 "best_fold" p_best_fold spBest) : Ca P w K mg base CX0 11 "folds_of" p_folds_of spFolds := by
  obtain ⟨f_best_fold, fd_best_fold, G_best_fold, m_best_fold, k_best_fold, b_best_fold⟩ := C_best_fold
  obtain ⟨f0, fd0, F0, gf0, bf0⟩ := D
  refine ⟨f0, fd0, ?_, gf0, F0.kp, bf0⟩
  refine F0.ok sc_folds_of (fun vs H Q E h => ?_) (fun cdv A outer s0 H vs Q E hr h => ?_)
  · obtain ⟨p, ws, rfl, _⟩ := h
    rfl
  obtain ⟨p, ws, rfl, hp, hl, hb, q⟩ := h
  refine ⟨_, (pss_cons (ps_set (i := 1) sc_folds_of.nd rfl (.inl rfl) pe_dnewT) (pss_cons (ps_for PassesOwn.never rfl (pi_range2 (by rfl) T.z_range (pa_cons pe_int (pa_cons (pe_op op_add (pe_callB (call_lenK (K := K) rfl) (by rfl) T.z_len PySem.boot_len (pa_cons (pv 0) pa_nil)) pe_int) pa_nil))) (pg_name (i := 2) sc_folds_of.nd rfl (.inl rfl)) (pss_one (ps_for PassesOwn.never rfl (pi_range1 (by rfl) T.z_range (pa_cons (pe_op op_add (pe_op op_sub (pe_callB (call_lenK (K := K) rfl) (by rfl) T.z_len PySem.boot_len (pa_cons (pv 0) pa_nil)) (pv 2)) pe_int) pa_nil)) (pg_name (i := 3) sc_folds_of.nd rfl (.inl rfl)) (pss_one (ps_dput (hu_of hr) (pv 1) (pe_tup (pa_cons (pv 3) (pa_cons (pv 2) pa_nil))) (pe_call G_best_fold (hr.mono (by decide)) (by rfl) m_best_fold k_best_fold b_best_fold .nil pass0 (pa_cons (pv 0) (pa_cons (pv 3) (pa_cons (pv 2) (pa_cons (pv 1) pa_nil))))) rfl))))) (pss_one (ps_ret (pv 1))))), ?_⟩
  tm_at "s"
  refine fun bd nbd => ?_
  have e1 := same_new (o := .dT []) nbd
  have hd1 : upd H bd (.dT []) bd = some (.dT []) := upd_same
  generalize upd H bd (.dT []) = H1 at e1 hd1 ⊢
  have hp1 := e1 _ _ hp
  tm_at "s"
  refine ⟨⟨rgi_lo (by decide), rgi_hi (by decide), rgi_lo (by omega), rgi_hi (by omega)⟩, ?_⟩
  rw [show ((ws.length : Int) + 1 - 1).toNat = ws.length by omega]
  refine for_range (lo := 1) (n := ws.length) (fun i σ H2 => ∃ (x2 x3 : Option V) (kvs : List (List Key × V)), σ = [some (.ref p), some (.ref bd), x2, x3] ∧ Same H H2 ∧ H2 bd = some (.dT kvs) ∧ kvs.length ≤ i * 14 ∧ FoldsTo H2 kvs ws.length (1 + i) 0)
    ⟨none, none, [], rfl, e1, hd1, Nat.le_refl _, fun a s h1 h2 h3 => by omega⟩ ?_ ?_
  · rintro i σ H2 hi ⟨x2, x3, kvs, rfl, e2, hd2, hk2, hf2⟩
    have hp2 := e2 _ _ hp
    tm_at "s"
    refine ⟨rgi_lo (by omega), rgi_hi (by omega), ?_⟩
    rw [show ((ws.length : Int) - (1 + (i : Int)) + 1).toNat = ws.length - i by omega]
    refine for_rng (n := ws.length - i) (fun j σ H3 => ∃ (x3 : Option V) (kvs : List (List Key × V)), σ = [some (.ref p), some (.ref bd), some (.int (1 + (i : Int))), x3] ∧ Same H H3 ∧ H3 bd = some (.dT kvs) ∧ kvs.length ≤ i * 14 + j ∧ FoldsTo H3 kvs ws.length (1 + i) j)
      ⟨_, kvs, rfl, e2, hd2, hk2, hf2⟩ ?_ ?_
    · clear hp2 hf2 hk2 hd2 e2 kvs
      rintro j σ H3 hj ⟨x3, kvs, rfl, e3, hd3, hk3, hf3⟩
      have hp3 := e3 _ _ hp
      tm_at "s"
      refine ⟨p, bd, ws, j, 1 + i, kvs, ?_, hp3, hl, hb, by omega, by omega, hd3, fun a s h1 h2 h3 => hf3 a s h1 (.inl h2) h3, fun r H4 e4 hr4 => ?_⟩
      · rw [Int.natCast_add]
        rfl
      have e04 := Same.trans e3 e4
      have hd4 := e4 _ _ hd3
      tm_at "s"
      refine ⟨by tm_at "sz", fun kp nkp => ?_⟩
      have e5 := Same.new (o := .tup [.int (j : Int), .int (1 + (i : Int))]) e04 nkp
      have f5 := Same.new (o := .tup [.int (j : Int), .int (1 + (i : Int))]) e4 nkp
      have hr5 := hr4.ts (Same.ts (same_new (o := .tup [.int (j : Int), .int (1 + (i : Int))]) nkp))
      have hk5 : upd H4 kp (.tup [.int (j : Int), .int (1 + (i : Int))]) kp = some (.tup ((ky j (1 + i)).map kV)) := by
        rw [upd_same]
        unfold ky
        rw [Int.natCast_add]
        rfl
      have hd5 := f5 _ _ hd3
      generalize upd H4 kp (.tup [.int (j : Int), .int (1 + (i : Int))]) = H5 at e5 f5 hk5 hd5 hr5 ⊢
      have T56 : Ts H5 (upd H5 bd (.dT (putK kvs (ky j (1 + i)) (.ref r)))) := fun b xs e => keep_ne (ne_of e hd5 (by intro z; cases z)) e
      have hkl : i * 14 ≤ 196 := Nat.le_trans (Nat.mul_le_mul_right 14 (show i ≤ 14 by omega)) (by decide)
      refine ⟨bd, _, rfl, DPut.t hd5 hk5 (small_lt (by omega)), _, _, rfl, Same.mut e5 nbd, upd_same, Nat.le_trans (putK_len ..) (by omega), fun a s h1 h2 h3 => ?_⟩
      rw [valV_put]
      by_cases c : ky a s = ky j (1 + i)
      · obtain ⟨rfl, rfl⟩ := ky_inj.mp c
        rw [if_pos rfl]
        exact ⟨r, rfl, hr5.ts T56⟩
      · rw [if_neg c]
        obtain ⟨fp, h4, h5⟩ := hf3 a s h1 (by
          rcases h2 with h2 | ⟨h2, h2'⟩
          · exact .inl h2
          · refine .inr ⟨h2, ?_⟩
            have : a ≠ j := fun h => c (by rw [h, h2])
            omega) h3
        exact ⟨fp, h4, h5.ts (Ts.trans (Same.ts f5) T56)⟩
    · rintro σ H3 ⟨x3, kvs, rfl, e3, hd3, hk3, hf3⟩
      exact ⟨_, _, kvs, rfl, e3, hd3, by omega, fun a s h1 h2 h3 => hf3 a s h1 (by omega) h3⟩
  · rintro σ H2 ⟨x2, x3, kvs, rfl, e2, hd2, hk2, hf2⟩
    tm_at "s"
    exact q bd kvs H2 e2 hd2 fun a s h1 h2 h3 => hf2 a s h1 (by omega) h3
theorem ok_need_short (D : Df K mg "need_short" s_need_short p_need_short) (T : Tx mg) (C_is_in : Ca P w K mg base CX0 1 "is_in" p_is_in spIsIn) (N_MOST_BOXES : Cn mg "MOST_BOXES" 8) (N_MOST_FOLDED : Cn mg "MOST_FOLDED" 24) : Ca P w K mg base CX0 2 "need_short" p_need_short spShort := by
  obtain ⟨f_is_in, fd_is_in, G_is_in, m_is_in, k_is_in, b_is_in⟩ := C_is_in
  obtain ⟨t_MOST_BOXES, c_MOST_BOXES⟩ := N_MOST_BOXES
  obtain ⟨t_MOST_FOLDED, c_MOST_FOLDED⟩ := N_MOST_FOLDED
  obtain ⟨f0, fd0, F0, gf0, bf0⟩ := D
  refine ⟨f0, fd0, ?_, gf0, F0.kp, bf0⟩
  refine F0.ok sc_need_short (fun vs H Q E h => ?_) (fun cdv A outer s0 H vs Q E hr h => ?_)
  · obtain ⟨p, ws, rfl, _⟩ := h
    rfl
  obtain ⟨p, ws, rfl, hp, hl, hb, q⟩ := h
  refine ⟨_, (pss_cons (ps_if (PW.pt (pw_or (pt_not (pt_val (pe_callB call_is (by rfl) T.z_isinstance (by decide +kernel) (pa_cons (pv 0) (pa_cons (pe_bltn (v := .ty "tuple") (by rfl) T.z_tuple (by decide +kernel) rfl) pa_nil))))) (pw_or1 (pt_cmpR (op_neK (K := K) rfl hr.units) (pe_lc (own := [("box", 1)]) (g := gName 1) (by rfl) sc_need_short.nd (pi_tupK (K := K) rfl (pv 0)) (blkOk_by (own := [("box", 1)]) (N := n_need_short) (sc := defScope s_need_short) (by decide +kernel)) (fun _ _ _ _ _ => pg_name (i := 1) sc_need_short.nd rfl (Or.inl rfl)) (fun _ _ _ _ _ => pts_one (pt_not (pt_val (pe_call G_is_in (hr.mono (by decide)) (by rfl) m_is_in k_is_in b_is_in .nil pass0 (pa_cons (pv 1) (pa_cons pe_int (pa_cons (pe_op op_sub (pe_glob (v := .int 8) (by rfl) c_MOST_BOXES ⟨_, rfl⟩) pe_int) pa_nil))))))) (fun _ _ _ _ _ => (pv 1))) (pe_lst pa_nil) (nomark _))))) (pss_one ps_never) pss_nil) (pss_one (ps_if (pt_cmpR op_gt (pe_callB (call_lenK (K := K) rfl) (by rfl) T.z_len PySem.boot_len (pa_cons (pv 0) pa_nil)) (pe_glob (v := .int 24) (by rfl) c_MOST_FOLDED ⟨_, rfl⟩) (nomark _)) (pss_one ps_never) pss_nil))), ?_⟩
  tm_at "s"
  refine ⟨_, _, _, _, rfl, .tup _ _ hp, kb_tt, ?_⟩
  tm_at "s"
  refine ⟨⟨_, SqT.of hp⟩, fun D nD => ?_⟩
  refine lc_tup (K := K) (a := p) (xs := ws.map V.int) (fun i H2 => Same H H2 ∧ H2 D = some (.lst [])) ⟨same_new nD, upd_same⟩ ?_ ?_ ?_
  · rintro i H2 hi ⟨e2, _⟩
    exact SqT.of (e2 _ _ hp)
  · rintro i x H2 hx ⟨e2, h2⟩
    rw [List.getElem?_map] at hx
    cases hwi : ws[i]? with
    | none =>
      rw [hwi] at hx
      cases hx
    | some box =>
    rw [hwi] at hx
    obtain rfl : V.int box = x := Option.some.inj hx
    obtain ⟨b0, b7⟩ := hb box (List.mem_of_getElem? hwi)
    refine ⟨rfl, ?_⟩
    tm_at "s"
    refine .inl ⟨box, 0, 8 - 1, rfl, ?_⟩
    rw [decide_eq_true (by omega), decide_eq_true (by omega)]
    tm_at "s"
    exact ⟨e2, h2⟩
  · rintro H2 ⟨e2, h2⟩
    tm_at "s"
    refine ⟨by tm_at "sz", fun p2 np2 => ?_⟩
    refine st_neL (ks := []) (ls := []) (keep_new np2 h2) upd_same ?_
    have e3 := Same.new (o := .lst []) e2 np2
    have hp3 := e3 _ _ hp
    tm_at "s"
    refine ite_dec (fun c => by omega) (fun _ => ?_)
    exact q _ e3
theorem ok_folded (D : Df K mg "folded" s_folded p_folded) (T : Tx mg) (C_need_short : Ca P w K mg base CX0 2 "need_short" p_need_short spShort) (C_folds_of : Ca P w K mg base CX0 11 "folds_of" p_folds_of spFolds) : Ca P w K mg base CX0 12 "folded" p_folded spFolded := by
  obtain ⟨f_need_short, fd_need_short, G_need_short, m_need_short, k_need_short, b_need_short⟩ := C_need_short
  obtain ⟨f_folds_of, fd_folds_of, G_folds_of, m_folds_of, k_folds_of, b_folds_of⟩ := C_folds_of
  obtain ⟨f0, fd0, F0, gf0, bf0⟩ := D
  refine ⟨f0, fd0, ?_, gf0, F0.kp, bf0⟩
  refine F0.ok sc_folded (fun vs H Q E h => ?_) (fun cdv A outer s0 H vs Q E hr h => ?_)
  · obtain ⟨p, ws, rfl, _⟩ := h
    rfl
  obtain ⟨p, ws, rfl, hp, hl, hb, q⟩ := h
  refine ⟨_, (pss_cons (ps_expr (pe_call G_need_short (hr.mono (by decide)) (by rfl) m_need_short k_need_short b_need_short .nil pass0 (pa_cons (pv 0) pa_nil))) (pss_one (ps_ret (pe_ifExp (pt_cmpR (op_neK (K := K) rfl hr.units) (pv 0) (pe_tup pa_nil) (nomark _)) (pe_ix (ix_ltK (K := K) rfl) (pe_dget (hu_of hr) (pe_call G_folds_of (hr.mono (by decide)) (by rfl) m_folds_of k_folds_of b_folds_of .nil pass0 (pa_cons (pv 0) pa_nil)) (pe_tup (pa_cons pe_int (pa_cons (pe_callB (call_lenK (K := K) rfl) (by rfl) T.z_len PySem.boot_len (pa_cons (pv 0) pa_nil)) pa_nil))) (fun _ _ => rfl)) pe_int (fun _ _ => rfl)) (pe_tup pa_nil))))), ?_⟩
  tm_at "s"
  refine ⟨p, ws, rfl, hp, hl, hb, fun H1 e1 => ?_⟩
  tm_at "s"
  refine ⟨by tm_at "sz", fun z nz => ?_⟩
  have e2 := Same.new (o := .tup []) e1 nz
  refine st_neT (ls := []) (e2 _ _ hp) upd_same ?_
  generalize upd H1 z (.tup []) = H2 at e2 ⊢
  have hp2 := e2 _ _ hp
  tm_at "s"
  refine ite_ndec (fun c => ?_) (fun c => ?_)
  · have hl1 : 1 ≤ ws.length := by
      cases ws with
      | nil => exact absurd rfl c
      | cons a b => exact Nat.succ_le_succ (Nat.zero_le _)
    tm_at "s"
    refine ⟨p, ws, rfl, hp2, hl, hb, fun bd kvs H3 e3 hd3 hf3 => ?_⟩
    have hp3 := e3 _ _ hp2
    tm_at "s"
    refine ⟨by tm_at "sz", fun kp nkp => ?_⟩
    obtain ⟨fp, h4, h5⟩ := hf3 0 ws.length hl1 (by omega) (by omega)
    have e4 := same_new (o := .tup [.int 0, .int (ws.length : Nat)]) nkp
    refine ⟨bd, _, rfl, dget_t (a := 0) (s := ws.length) (e4 _ _ hd3) upd_same rfl rfl h4, ?_⟩
    obtain ⟨c, a, l, h6, h7, h8, h9⟩ := h5.ts (Same.ts e4)
    tm_at "s"
    exact q a l _ (Same.trans e2 (Same.trans e3 e4)) h7 h8 (by omega)
  · tm_at "s"
    refine ⟨by tm_at "sz", fun p2 np2 => ?_⟩
    exact q p2 .nil _ (Same.new e2 np2) ⟨[], upd_same, rfl⟩ Lp.nil_ok (Nat.zero_le _)
end
end Rf
namespace Rf
open PySem PySem.Spec L2
local macro_rules | `(tactic| tm_at "hp") => `(tactic| (first | assumption | exact FlowAt.top (by assumption) | exact FlowAt.all (by assumption) | exact FlowAt.pipe (by assumption) _ (by assumption) | exact upd_same | (refine keep_new (by assumption) ?_; tm_at "hp")))
local macro_rules | `(tactic| tm_at "sq") => `(tactic| (first | exact .inl (by assumption) | exact .inr (by assumption) | exact .inr (SqT.of (by tm_at "hp")) | exact .inl (SqL.of (by tm_at "hp"))))
local macro_rules | `(tactic| tm_at "at") => `(tactic| (first | rfl | exact itab_at (by assumption) | exact tab_at (by assumption) | (refine itab_atI ?_ ?_ <;> assumption)))
local macro_rules | `(tactic| tm_at "ix") => `(tactic| (refine' ⟨_, _, _, _, rfl, rfl, ?hs, ?ha, ?_⟩; (case hs => tm_at "sq"); (case ha => tm_at "at")))
local macro_rules | `(tactic| tm_at "len") => `(tactic| (refine' ⟨_, _, rfl, ?hs, ?_⟩; (case hs => tm_at "sq"); (first | rw [itab_len] | rw [tab_len] | rw [List.length_map] | skip)))
local macro_rules | `(tactic| tm_at "rg") => `(tactic| (refine ⟨rg_lo, rg_hi (by omega), ?_⟩))
local macro_rules | `(tactic| tm_at "rgi") => `(tactic| (refine ⟨rgi_lo (by omega), rgi_hi (by omega), ?_⟩))
local macro_rules | `(tactic| tm_at "ut") => `(tactic| (refine' ⟨_, _, rfl, ?hs, ?hl, ?_⟩; (case hs => exact SqT.of (by tm_at "hp")); (case hl => rfl)))
local macro_rules | `(tactic| tm_at "s") => `(tactic| repeat (first | refine ⟨_, rfl, ?_⟩ | refine ⟨_, _, rfl, rfl, ?_⟩ | tm_at "ix" | tm_at "len" | tm_at "ut" | refine ⟨rfl, ?_⟩ | refine ⟨_, _, rfl, ?_⟩ | refine ⟨_, _, _, rfl, ?_⟩ | refine Or.inl ⟨_, rfl, ?_⟩ | refine ⟨Or.inl ⟨rfl, _, SqL.of (by tm_at "hp")⟩, ?_⟩))
local macro_rules | `(tactic| tm_at "tl") => `(tactic| (refine' ⟨_, _, rfl, Or.inl ⟨SqL.of ?hs, ?_⟩⟩; (case hs => tm_at "hp")))
local macro_rules | `(tactic| tm_at "set") => `(tactic| (refine' ⟨_, _, _, _, rfl, rfl, ?hs, ?hj, ?_⟩; (case hs => tm_at "hp"); (case hj => (first | rfl | exact tab_ixN (by assumption)))))
local macro_rules | `(tactic| tm_at "sz") => `(tactic| (first | exact small_ok (Nat.le_of_ble_eq_true rfl) | exact Nat.le_of_ble_eq_true rfl))
local macro_rules | `(tactic| tm_at "acc") => `(tactic| (refine' ⟨_, ?ha, ?hz, ?_⟩; (case ha => tm_at "hp"); (case hz => (first | rw [itab_len] | rw [tab_len] | rw [List.length_map] | skip); exact small_lt (by omega))))
local macro_rules | `(tactic| tm_at "ap") => `(tactic| (refine' ⟨_, _, _, rfl, rfl, ?hs, ?hz, ?_⟩; (case hs => tm_at "hp")))
local macro_rules | `(tactic| tm_at "sm") => `(tactic| (first | assumption | exact Same.refl _ | (refine Same.new ?_ (by assumption); tm_at "sm") | (refine Same.mut ?_ (by assumption); tm_at "sm")))
section
variable {P : Program} {w : World} {K : PySem.W.Frag} {mg : Str → Option Value} {base : Heap}

/-- a step against () -/
theorem st_eqStp {K : PySem.W.Frag} {H : Hp} {a b : Addr} {c : Stp} {Q : VK} (ha : H a = some (.tup c.vs)) (hb : H b = some (.tup [])) (q : Q (.bl false) H) : rEqD K (.ref a) (.ref b) H Q := by
  cases c with
  | fire i =>
    refine ⟨.tuple [.str "fire", .int i], .tuple [], .tup (SqT.of ha) (.cons (.str _) (.cons (.int _) .nil)), .tup (SqT.of hb) .nil, sh_tuple (by simp [PyData.canLayAll0, PyData.canLay0]; decide +kernel) (by simp [PyData.depthAll, PyData.depth]), sh_tuple (by simp [PyData.canLayAll0]) (by simp [PyData.depthAll]), ?_⟩
    rw [PyData.eqv, eqv_nil]
    exact q
  | rep i =>
    refine ⟨.tuple [.str "repeat", .int i], .tuple [], .tup (SqT.of ha) (.cons (.str _) (.cons (.int _) .nil)), .tup (SqT.of hb) .nil, sh_tuple (by simp [PyData.canLayAll0, PyData.canLay0]; decide +kernel) (by simp [PyData.depthAll, PyData.depth]), sh_tuple (by simp [PyData.canLayAll0]) (by simp [PyData.depthAll]), ?_⟩
    rw [PyData.eqv, eqv_nil]
    exact q
  | again =>
    refine ⟨.tuple [.str "again"], .tuple [], .tup (SqT.of ha) (.cons (.str _) .nil), .tup (SqT.of hb) .nil, sh_tuple (by simp [PyData.canLayAll0, PyData.canLay0]; decide +kernel) (by simp [PyData.depthAll, PyData.depth]), sh_tuple (by simp [PyData.canLayAll0]) (by simp [PyData.depthAll]), ?_⟩
    rw [PyData.eqv, eqv_nil]
    exact q
theorem ok_need_room (D : Df K mg "need_room" s_need_room p_need_room) (T : Tx mg) (C_is_in : Ca P w K mg base CX0 1 "is_in" p_is_in spIsIn) (N_MOST_TOKENS : Cn mg "MOST_TOKENS" 99999) : Ca P w K mg base CX0 2 "need_room" p_need_room spNeedRoom := by
  obtain ⟨f_is_in, fd_is_in, G_is_in, m_is_in, k_is_in, b_is_in⟩ := C_is_in
  obtain ⟨t_MOST_TOKENS, c_MOST_TOKENS⟩ := N_MOST_TOKENS
  obtain ⟨f0, fd0, F0, gf0, bf0⟩ := D
  refine ⟨f0, fd0, ?_, gf0, F0.kp, bf0⟩
  refine F0.ok sc_need_room (fun vs H Q E h => ?_) (fun cdv A outer s0 H vs Q E hr h => ?_)
  · obtain ⟨f, ra, n, m, Pi, rm, pa, ad, rfl, _⟩ := h
    rfl
  obtain ⟨f, ra, n, m, Pi, rm, pa, ad, rfl, hF, hO, hra, hrm, q⟩ := h
  have hm6 := hO.m6
  refine ⟨_, (pss_cons (ps_if (PW.pt (pw_or (pt_not (pt_val (pe_callB call_is (by rfl) T.z_isinstance (by decide +kernel) (pa_cons (pv 1) (pa_cons (pe_bltn (v := .ty "tuple") (by rfl) T.z_tuple (by decide +kernel) rfl) pa_nil))))) (pw_or1 (pt_cmpR op_ne (pe_callB (call_lenK (K := K) rfl) (by rfl) T.z_len PySem.boot_len (pa_cons (pv 1) pa_nil)) (pe_callB (call_lenK (K := K) rfl) (by rfl) T.z_len PySem.boot_len (pa_cons (pe_ix (ix_ltK (K := K) rfl) (pv 0) pe_int (fun _ _ => rfl)) pa_nil)) (nomark _))))) (pss_one ps_never) pss_nil) (pss_one (ps_for PassesOwn.never rfl (pi_enumTK (K := K) rfl (by rfl) T.z_enumerate (pa_cons (pv 1) pa_nil)) (pg_tupK (K := K) rfl (by rfl) (pgs_cons (pg_name (i := 2) sc_need_room.nd rfl (.inl rfl)) (pgs_cons (pg_name (i := 3) sc_need_room.nd rfl (.inl rfl)) pgs_nil))) (pss_one (ps_if (pt_not (pt_val (pe_call G_is_in (hr.mono (by decide)) (by rfl) m_is_in k_is_in b_is_in .nil pass0 (pa_cons (pv 3) (pa_cons (pe_ix (ix_ltK (K := K) rfl) (pe_ix (ix_ltK (K := K) rfl) (pe_ix (ix_ltK (K := K) rfl) (pv 0) pe_int (fun _ _ => rfl)) (pv 2) (fun _ _ => rfl)) pe_int (fun _ _ => rfl)) (pa_cons (pe_glob (v := .int 99999) (by rfl) c_MOST_TOKENS ⟨_, rfl⟩) pa_nil)))))) (pss_one ps_never) pss_nil))))), ?_⟩
  tm_at "s"
  refine ⟨_, _, _, _, rfl, .tup _ _ hra, kb_tt, ?_⟩
  tm_at "s"
  refine ite_nei (fun c => absurd rfl c) (fun _ => ?_)
  tm_at "s"
  refine ⟨_, _, rfl, SqT.of hra, ?_⟩
  refine for_enumT (K := K) (a := ra) (xs := itab m rm) (fun i σ H2 => ∃ x2 x3, σ = [some (.ref f), some (.ref ra), x2, x3] ∧ Same H H2) ⟨none, none, rfl, Same.refl _⟩ ?_ ?_ ?_
  · rintro i σ H2 hi ⟨x1, x2, rfl, e2⟩
    exact SqT.of (e2 _ _ hra)
  · rintro i x σ H2 t hx ⟨x1, x2, rfl, e2⟩ nt
    obtain ⟨hi, rfl⟩ := tab_some hx
    have e3 := Same.new (o := .tup [.int (i : Nat), .int (rm i)]) e2 nt
    have F3 := hF.ts (Same.ts e3)
    obtain ⟨h1, h2⟩ := hrm i hi
    tm_at "s"
    refine .inl ⟨rm i, (Pi i).start, 99999, rfl, ?_⟩
    rw [decide_eq_true h1, decide_eq_true h2]
    tm_at "s"
    exact e3
  · rintro σ H2 ⟨x1, x2, rfl, e2⟩
    exact q H2 e2
theorem ok_is_step (D : Df K mg "is_step" s_is_step p_is_step) (T : Tx mg) (C_is_in : Ca P w K mg base CX0 1 "is_in" p_is_in spIsIn) (N_MOST_BOXES : Cn mg "MOST_BOXES" 8) (N_MOST_TIMES : Cn mg "MOST_TIMES" 999) : Ca P w K mg base CX0 2 "is_step" p_is_step spIsStep := by
  obtain ⟨f_is_in, fd_is_in, G_is_in, m_is_in, k_is_in, b_is_in⟩ := C_is_in
  obtain ⟨t_MOST_BOXES, c_MOST_BOXES⟩ := N_MOST_BOXES
  obtain ⟨t_MOST_TIMES, c_MOST_TIMES⟩ := N_MOST_TIMES
  obtain ⟨f0, fd0, F0, gf0, bf0⟩ := D
  refine ⟨f0, fd0, ?_, gf0, F0.kp, bf0⟩
  refine F0.ok sc_is_step (fun vs H Q E h => ?_) (fun cdv A outer s0 H vs Q E hr h => ?_)
  · obtain ⟨a, c, rfl, _⟩ := h
    rfl
  obtain ⟨a, c, rfl, ha, hO, q⟩ := h
  refine ⟨_, (pss_cons (ps_if (PW.pt (pw_or (pt_not (pt_val (pe_callB call_is (by rfl) T.z_isinstance (by decide +kernel) (pa_cons (pv 0) (pa_cons (pe_bltn (v := .ty "tuple") (by rfl) T.z_tuple (by decide +kernel) rfl) pa_nil))))) (pw_or (pt_cmpR (op_eqK (K := K) rfl hr.units) (pv 0) (pe_tup pa_nil) (nomark _)) (pw_or1 (pt_not (pt_val (pe_callB call_is (by rfl) T.z_isinstance (by decide +kernel) (pa_cons (pe_ix (ix_ltK (K := K) rfl) (pv 0) pe_int (fun _ _ => rfl)) (pa_cons (pe_bltn (v := .ty "str") (by rfl) T.z_str (by decide +kernel) rfl) pa_nil))))))))) (pss_one (ps_ret pe_bl)) pss_nil) (pss_cons (ps_if (pt_cmpR op_eq (pe_ix (ix_ltK (K := K) rfl) (pv 0) pe_int (fun _ _ => rfl)) pe_str (nomark _)) (pss_one (ps_ret (pe_cmpR op_eq (pe_callB (call_lenK (K := K) rfl) (by rfl) T.z_len PySem.boot_len (pa_cons (pv 0) pa_nil)) pe_int (nomark _)))) pss_nil) (pss_cons (ps_if (pt_cmpR op_ne (pe_callB (call_lenK (K := K) rfl) (by rfl) T.z_len PySem.boot_len (pa_cons (pv 0) pa_nil)) pe_int (nomark _)) (pss_one (ps_ret pe_bl)) pss_nil) (pss_cons (ps_if (pt_cmpR op_eq (pe_ix (ix_ltK (K := K) rfl) (pv 0) pe_int (fun _ _ => rfl)) pe_str (nomark _)) (pss_one (ps_ret (pe_call G_is_in (hr.mono (by decide)) (by rfl) m_is_in k_is_in b_is_in .nil pass0 (pa_cons (pe_ix (ix_ltK (K := K) rfl) (pv 0) pe_int (fun _ _ => rfl)) (pa_cons pe_int (pa_cons (pe_glob (v := .int 999) (by rfl) c_MOST_TIMES ⟨_, rfl⟩) pa_nil)))))) pss_nil) (pss_one (ps_ret (pe_and (pe_cmpR op_eq (pe_ix (ix_ltK (K := K) rfl) (pv 0) pe_int (fun _ _ => rfl)) pe_str (nomark _)) (pe_one (pe_call G_is_in (hr.mono (by decide)) (by rfl) m_is_in k_is_in b_is_in .nil pass0 (pa_cons (pe_ix (ix_ltK (K := K) rfl) (pv 0) pe_int (fun _ _ => rfl)) (pa_cons pe_int (pa_cons (pe_op op_sub (pe_glob (v := .int 8) (by rfl) c_MOST_BOXES ⟨_, rfl⟩) pe_int) pa_nil)))))))))))), ?_⟩
  tm_at "s"
  refine ⟨_, _, _, _, rfl, .tup _ _ ha, kb_tt, ?_⟩
  tm_at "s"
  refine ⟨by tm_at "sz", fun z nz => ?_⟩
  have e1 := same_new (o := .tup []) nz
  have ha1 := e1 _ _ ha
  refine st_eqStp ha1 upd_same ?_
  generalize upd H z (.tup []) = H1 at e1 ha1 ⊢
  cases c with
  | fire b =>
    obtain ⟨b0, b7⟩ : 0 ≤ b ∧ b ≤ 7 := hO
    have ha2 : H1 a = some (.tup [.str "fire", .int b]) := ha1
    tm_at "s"
    refine ⟨_, _, _, _, rfl, .str _, kb_ss, ?_⟩
    tm_at "s"
    refine .inl ⟨b, 0, 8 - 1, rfl, ?_⟩
    rw [decide_eq_true b0, decide_eq_true (by omega)]
    exact q _ e1
  | rep t =>
    obtain ⟨t2, t9⟩ : 2 ≤ t ∧ t ≤ 999 := hO
    have ha2 : H1 a = some (.tup [.str "repeat", .int t]) := ha1
    tm_at "s"
    refine ⟨_, _, _, _, rfl, .str _, kb_ss, ?_⟩
    tm_at "s"
    refine .inl ⟨t, 2, 999, rfl, ?_⟩
    rw [decide_eq_true t2, decide_eq_true t9]
    exact q _ e1
  | again =>
    have ha2 : H1 a = some (.tup [.str "again"]) := ha1
    tm_at "s"
    refine ⟨_, _, _, _, rfl, .str _, kb_ss, ?_⟩
    tm_at "s"
    exact q _ e1
end
end Rf
namespace Rf
open PySem PySem.Spec L2
local macro_rules | `(tactic| tm_at "hp") => `(tactic| (first | assumption | exact FlowAt.top (by assumption) | exact FlowAt.all (by assumption) | exact FlowAt.pipe (by assumption) _ (by assumption) | exact upd_same | (refine keep_new (by assumption) ?_; tm_at "hp")))
local macro_rules | `(tactic| tm_at "sq") => `(tactic| (first | exact .inl (by assumption) | exact .inr (by assumption) | exact .inr (SqT.of (by tm_at "hp")) | exact .inl (SqL.of (by tm_at "hp"))))
local macro_rules | `(tactic| tm_at "at") => `(tactic| (first | rfl | exact itab_at (by assumption) | exact tab_at (by assumption) | (refine itab_atI ?_ ?_ <;> assumption)))
local macro_rules | `(tactic| tm_at "ix") => `(tactic| (refine' ⟨_, _, _, _, rfl, rfl, ?hs, ?ha, ?_⟩; (case hs => tm_at "sq"); (case ha => tm_at "at")))
local macro_rules | `(tactic| tm_at "len") => `(tactic| (refine' ⟨_, _, rfl, ?hs, ?_⟩; (case hs => tm_at "sq"); (first | rw [itab_len] | rw [tab_len] | rw [List.length_map] | skip)))
local macro_rules | `(tactic| tm_at "rg") => `(tactic| (refine ⟨rg_lo, rg_hi (by omega), ?_⟩))
local macro_rules | `(tactic| tm_at "rgi") => `(tactic| (refine ⟨rgi_lo (by omega), rgi_hi (by omega), ?_⟩))
local macro_rules | `(tactic| tm_at "ut") => `(tactic| (refine' ⟨_, _, rfl, ?hs, ?hl, ?_⟩; (case hs => exact SqT.of (by tm_at "hp")); (case hl => rfl)))
local macro_rules | `(tactic| tm_at "s") => `(tactic| repeat (first | refine ⟨_, rfl, ?_⟩ | refine ⟨_, _, rfl, rfl, ?_⟩ | tm_at "ix" | tm_at "len" | tm_at "ut" | refine ⟨rfl, ?_⟩ | refine ⟨_, _, rfl, ?_⟩ | refine ⟨_, _, _, rfl, ?_⟩ | refine Or.inl ⟨_, rfl, ?_⟩ | refine ⟨Or.inl ⟨rfl, _, SqL.of (by tm_at "hp")⟩, ?_⟩))
local macro_rules | `(tactic| tm_at "tl") => `(tactic| (refine' ⟨_, _, rfl, Or.inl ⟨SqL.of ?hs, ?_⟩⟩; (case hs => tm_at "hp")))
local macro_rules | `(tactic| tm_at "set") => `(tactic| (refine' ⟨_, _, _, _, rfl, rfl, ?hs, ?hj, ?_⟩; (case hs => tm_at "hp"); (case hj => (first | rfl | exact tab_ixN (by assumption)))))
local macro_rules | `(tactic| tm_at "sz") => `(tactic| (first | exact small_ok (Nat.le_of_ble_eq_true rfl) | exact Nat.le_of_ble_eq_true rfl))
local macro_rules | `(tactic| tm_at "acc") => `(tactic| (refine' ⟨_, ?ha, ?hz, ?_⟩; (case ha => tm_at "hp"); (case hz => (first | rw [itab_len] | rw [tab_len] | rw [List.length_map] | skip); exact small_lt (by omega))))
local macro_rules | `(tactic| tm_at "ap") => `(tactic| (refine' ⟨_, _, _, rfl, rfl, ?hs, ?hz, ?_⟩; (case hs => tm_at "hp")))
local macro_rules | `(tactic| tm_at "sm") => `(tactic| (first | assumption | exact Same.refl _ | (refine Same.new ?_ (by assumption); tm_at "sm") | (refine Same.mut ?_ (by assumption); tm_at "sm")))
section
variable {P : Program} {w : World} {K : PySem.W.Frag} {mg : Str → Option Value} {base : Heap}

theorem ok_loop_of (D : Df K mg "loop_of" s_loop_of p_loop_of) (T : Tx mg) (C_is_step : Ca P w K mg base CX0 2 "is_step" p_is_step spIsStep) (C_size_of : Ca P w K mg base CX0 10 "size_of" p_size_of (spSize 8)) (N_MOST_DEEP : Cn mg "MOST_DEEP" 8) : Ca P w K mg base CX0 11 "loop_of" p_loop_of spLoopOf := by
  obtain ⟨f_is_step, fd_is_step, G_is_step, m_is_step, k_is_step, b_is_step⟩ := C_is_step
  obtain ⟨f_size_of, fd_size_of, G_size_of, m_size_of, k_size_of, b_size_of⟩ := C_size_of
  obtain ⟨t_MOST_DEEP, c_MOST_DEEP⟩ := N_MOST_DEEP
  obtain ⟨f0, fd0, F0, gf0, bf0⟩ := D
  refine ⟨f0, fd0, ?_, gf0, F0.kp, bf0⟩
  refine F0.ok sc_loop_of (fun vs H Q E h => ?_) (fun cdv A outer s0 H vs Q E hr h => ?_)
  · obtain ⟨a, l, ad, rfl, _⟩ := h
    rfl
  obtain ⟨a, l, ad, rfl, hC, hO, hz, q⟩ := h
  refine ⟨_, (pss_cons (ps_if (pt_not (pt_val (pe_callB call_is (by rfl) T.z_isinstance (by decide +kernel) (pa_cons (pv 0) (pa_cons (pe_bltn (v := .ty "tuple") (by rfl) T.z_tuple (by decide +kernel) rfl) pa_nil))))) (pss_one ps_never) pss_nil) (pss_cons (ps_set (i := 1) sc_loop_of.nd rfl (.inl rfl) (pe_lst (pa_cons (pe_lst (pa_cons pe_non (pa_cons (pe_lst pa_nil) pa_nil))) pa_nil))) (pss_cons (ps_for PassesOwn.never rfl (pi_enumTK (K := K) rfl (by rfl) T.z_enumerate (pa_cons (pv 0) pa_nil)) (pg_tupK (K := K) rfl (by rfl) (pgs_cons (pg_name (i := 2) sc_loop_of.nd rfl (.inl rfl)) (pgs_cons (pg_name (i := 3) sc_loop_of.nd rfl (.inl rfl)) pgs_nil))) (pss_cons (ps_if (pt_not (pt_val (pe_call G_is_step (hr.mono (by decide)) (by rfl) m_is_step k_is_step b_is_step .nil pass0 (pa_cons (pv 3) pa_nil)))) (pss_one ps_never) pss_nil) (pss_one (ps_if (pt_cmpR op_eq (pe_ix (ix_ltK (K := K) rfl) (pv 3) pe_int (fun _ _ => rfl)) pe_str (nomark _)) (pss_one (ps_expr (pe_bm PySem.F.plainAttrs_list PySem.F.slot_list_append PySem.F.type_list_append mt_append (pe_ix (ix_ltK (K := K) rfl) (pe_ix (ix_ltK (K := K) rfl) (pv 1) (pe_un un_neg pe_int) (fun _ _ => rfl)) pe_int (fun _ _ => rfl)) (pa_cons (pe_ix (ix_ltK (K := K) rfl) (pv 3) pe_int (fun _ _ => rfl)) pa_nil)))) (pss_one (ps_if (pt_cmpR op_eq (pe_ix (ix_ltK (K := K) rfl) (pv 3) pe_int (fun _ _ => rfl)) pe_str (nomark _)) (pss_one (ps_expr (pe_bm PySem.F.plainAttrs_list PySem.F.slot_list_append PySem.F.type_list_append mt_append (pv 1) (pa_cons (pe_lst (pa_cons (pe_ix (ix_ltK (K := K) rfl) (pv 3) pe_int (fun _ _ => rfl)) (pa_cons (pe_lst pa_nil) pa_nil))) pa_nil)))) (pss_cons (ps_if (PW.pt (pw_or (pt_cmpR op_eq (pe_callB (call_lenK (K := K) rfl) (by rfl) T.z_len PySem.boot_len (pa_cons (pv 1) pa_nil)) pe_int (nomark _)) (pw_or1 (pt_cmpR (op_eqK (K := K) rfl hr.units) (pe_ix (ix_ltK (K := K) rfl) (pe_ix (ix_ltK (K := K) rfl) (pv 1) (pe_un un_neg pe_int) (fun _ _ => rfl)) pe_int (fun _ _ => rfl)) (pe_lst pa_nil) (nomark _))))) (pss_one ps_never) pss_nil) (pss_cons (ps_asg (pe_bm0 PySem.F.plainAttrs_list PySem.F.slot_list_pop PySem.F.type_list_pop mt_pop (pv 1)) (pg_unlK (K := K) rfl (by rfl) (pgs_cons (pg_name (i := 4) sc_loop_of.nd rfl (.inl rfl)) (pgs_cons (pg_name (i := 5) sc_loop_of.nd rfl (.inl rfl)) pgs_nil)))) (pss_one (ps_expr (pe_bm PySem.F.plainAttrs_list PySem.F.slot_list_append PySem.F.type_list_append mt_append (pe_ix (ix_ltK (K := K) rfl) (pe_ix (ix_ltK (K := K) rfl) (pv 1) (pe_un un_neg pe_int) (fun _ _ => rfl)) pe_int (fun _ _ => rfl)) (pa_cons (pe_tup (pa_cons (pv 4) (pa_cons (pe_callTy (call_tupleK (K := K) rfl) (by rfl) T.z_tuple (by decide +kernel) (pa_cons (pv 5) pa_nil)) pa_nil))) pa_nil)))))))))))) (pss_cons (ps_if (pt_cmpR op_gt (pe_callB (call_lenK (K := K) rfl) (by rfl) T.z_len PySem.boot_len (pa_cons (pv 1) pa_nil)) pe_int (nomark _)) (pss_one ps_never) pss_nil) (pss_cons (ps_set (i := 6) sc_loop_of.nd rfl (.inl rfl) (pe_callTy (call_tupleK (K := K) rfl) (by rfl) T.z_tuple (by decide +kernel) (pa_cons (pe_ix (ix_ltK (K := K) rfl) (pe_ix (ix_ltK (K := K) rfl) (pv 1) pe_int (fun _ _ => rfl)) pe_int (fun _ _ => rfl)) pa_nil))) (pss_cons (ps_if (pt_cmpR op_isN (pe_call G_size_of (hr.mono (by decide)) (by rfl) m_size_of k_size_of b_size_of .nil pass0 (pa_cons (pv 6) (pa_cons (pe_glob (v := .int 8) (by rfl) c_MOST_DEEP ⟨_, rfl⟩) pa_nil))) pe_non (nomark _)) (pss_one ps_never) pss_nil) (pss_one (ps_ret (pv 6))))))))), ?_⟩
  have hcl : l.code.length ≤ 6000 := Nat.le_trans (Lp.code_len hO) (by omega)
  tm_at "s"
  refine ⟨_, _, _, _, rfl, .tup _ _ hC.1, kb_tt, ?_⟩
  tm_at "s"
  refine ⟨by tm_at "sz", fun b0 nb0 => ?_⟩
  tm_at "s"
  refine ⟨by tm_at "sz", fun a0 na0 => ?_⟩
  tm_at "s"
  refine ⟨by tm_at "sz", fun sp nsp => ?_⟩
  tm_at "s"
  have e1 := Same.new (o := .lst [.ref a0]) (Same.new (o := .lst [.non, .ref b0]) (same_new (o := .lst []) nb0) na0) nsp
  have hb0 : upd (upd (upd H b0 (.lst [])) a0 (.lst [.non, .ref b0])) sp (.lst [.ref a0]) b0 = some (.lst []) := keep_new nsp (keep_new na0 upd_same)
  have ha0 : upd (upd (upd H b0 (.lst [])) a0 (.lst [.non, .ref b0])) sp (.lst [.ref a0]) a0 = some (.lst [.non, .ref b0]) := keep_new nsp upd_same
  have hsp : upd (upd (upd H b0 (.lst [])) a0 (.lst [.non, .ref b0])) sp (.lst [.ref a0]) sp = some (.lst [.ref a0]) := upd_same
  have f1 := same_new (o := .lst []) nb0
  have f2 := Same.new (o := .lst [.non, .ref b0]) f1 na0
  have na0' : H a0 = none := Same.free f1 na0
  have nsp' : H sp = none := Same.free f2 nsp
  have d1 : a0 ≠ b0 := (ne_of_none upd_same na0).symm
  have d2 : sp ≠ a0 := (ne_of_none upd_same nsp).symm
  have d3 : sp ≠ b0 := (ne_of_none (keep_new na0 upd_same) nsp).symm
  generalize upd (upd (upd H b0 (.lst [])) a0 (.lst [.non, .ref b0])) sp (.lst [.ref a0]) = H1 at e1 hb0 ha0 hsp ⊢
  clear f1 f2 na0 nsp
  have hC1 := hC.ts (Same.ts e1)
  refine ⟨_, _, rfl, SqT.of hC1.1, ?_⟩
  refine for_enumT (K := K) (a := a) (xs := tab l.code.length fun k => .ref (ad k)) (fun i σ H2 => ∃ (x2 x3 x4 x5 : Option V) (ss : List V) (A : List Addr) (acc r : Lp) (fs : List (Int × Lp × Lp)), σ = [some (.ref a), some (.ref sp), x2, x3, x4, x5, none] ∧ Same H H2 ∧ H2 sp = some (.lst ss) ∧ StkAt FrG H2 (frs acc fs) ss A ∧ (sp :: A).Nodup ∧ (∀ x ∈ A, H x = none) ∧ Lp.plug (acc.app r) fs = l ∧ l.code.drop i = r.code ++ Lp.tail fs)
    ⟨none, none, none, none, [.ref a0], [a0, b0], .nil, l, [], rfl, e1, hsp, ⟨a0, [a0, b0], [], [], rfl, rfl, ⟨b0, [], rfl, ha0, hb0, rfl⟩, rfl, rfl⟩, by simp [d1, d2, d3], fun x hx => ?_, rfl, (List.append_nil _).symm⟩ ?_ ?_ ?_
  · have : x = a0 ∨ x = b0 := by simpa using hx
    rcases this with rfl | rfl
    · exact na0'
    · exact nb0
  · rintro i σ H2 hi ⟨_, _, _, _, _, _, _, _, _, rfl, e2, _⟩
    exact SqT.of (e2 _ _ hC.1)
  · clear hC1 hsp ha0 hb0 d1 d2 d3 na0' nb0 e1
    rintro i x σ H2 T hx ⟨x2, x3, x4, x5, ss, A, acc, r, fs, rfl, e2, hsp, hS, hN, hA0, hP, hD⟩ nT
    obtain ⟨hi, rfl⟩ := tab_some hx
    obtain ⟨c, hc⟩ : ∃ c, l.code[i]? = some c := ⟨l.code[i], List.getElem?_eq_getElem hi⟩
    have hcok : c.Ok := Lp.code_ok hO (List.mem_of_getElem? hc)
    have e3 := Same.new (o := .tup [.int (i : Nat), .ref (ad i)]) e2 nT
    have f3 := same_new (o := .tup [.int (i : Nat), .ref (ad i)]) nT
    have hst3 := e3 _ _ (hC.2 i c hc)
    have hD' := drop_step hc hD
    tm_at "s"
    refine ⟨_, c, rfl, hst3, hcok, fun H4 e4 => ?_⟩
    have e24 := Same.trans f3 e4
    have e04 := Same.trans e3 e4
    have hst := e4 _ _ hst3
    have hsp4 := e24 _ _ hsp
    have hS4 := hS.keep (H' := H4) (FrG.keep (Same.ts e24)) (fun x _ o h => e24 x o h)
    obtain ⟨⟨e, hoe, hfl⟩, hsz⟩ := Lp.plug_ok (hP ▸ hO : (Lp.plug (acc.app r) fs).Ok 8)
    rw [hP] at hsz
    have hal : acc.len ≤ 2000 := by
      have := Lp.len_le (Lp.ok_app_l hoe)
      rw [Lp.size_app] at hsz
      omega
    have hssl : ss.length ≤ 9 := by
      rw [hS4.len, frs_len]
      omega
    clear e3 f3 hst3 hS hsp nT e4
    cases r with
    | box bb r' =>
      have hD2 : Stp.fire bb :: (r'.code ++ Lp.tail fs) = c :: l.code.drop (i + 1) := hD'
      injection hD2 with h1 h2
      subst h1
      have hst' : H4 (ad i) = some (.tup [.str "fire", .int bb]) := hst
      obtain ⟨v, rest, hfr⟩ := frs_cons fs
      rw [hfr] at hS4
      obtain ⟨a1, B, A', ss', rfl, rfl, ⟨b1, xs, rfl, ha1, hb1, hAt⟩, hS'⟩ := hS4
      have hxl : xs.length = acc.len := hAt.len
      have ha1' : H4 a1 = some (.lst [v, .ref b1]) := ha1
      tm_at "s"
      refine ⟨_, _, _, _, rfl, rfl, .inl (SqL.of hsp4), atI_last _ _, ?_⟩
      tm_at "s"
      refine ⟨b1, _, _, rfl, rfl, hb1, small_lt (by omega), ?_⟩
      have hb0 := hA0 b1 (by simp)
      have nsb : sp ≠ b1 := by
        have := (List.nodup_cons.mp hN).1
        intro h
        exact this (by simp [h])
      have T5 : Ts H4 (upd H4 b1 (.lst (xs ++ [.int bb]))) := fun b ys h => keep_ne (ne_of h hb1 (by intro z; cases z)) h
      refine ⟨_, _, _, _, _, _, acc.app (.box bb .nil), r', fs, rfl, Same.mut e04 hb0, keep_ne nsb hsp4, ?_, hN, hA0, ?_, h2.symm⟩
      · rw [hfr]
        have hN2 := (List.nodup_cons.mp hN).2
        have nab : a1 ≠ b1 := by
          intro h
          rw [h] at hN2
          simp at hN2
        refine ⟨a1, [a1, b1], A', ss', rfl, rfl, ⟨b1, _, rfl, keep_ne nab ha1, upd_same, Lp.At.app (y := .box bb .nil) ⟨[], rfl, rfl⟩ (hAt.ts T5)⟩, hS'.keep (FrG.keep T5) fun x hx o h => keep_ne ?_ h⟩
        intro h2
        rw [h2] at hx
        simp [hx] at hN2
      · rw [Lp.app_assoc]
        exact hP
    | rep t body r' =>
      have hD2 : Stp.rep t :: ((body.code ++ .again :: r'.code) ++ Lp.tail fs) = c :: l.code.drop (i + 1) := hD'
      injection hD2 with h1 h2
      subst h1
      have hst' : H4 (ad i) = some (.tup [.str "repeat", .int t]) := hst
      tm_at "s"
      refine ⟨by tm_at "sz", fun b1 nb1 => ?_⟩
      tm_at "s"
      refine ⟨by tm_at "sz", fun a1 na1 => ?_⟩
      have f1 := same_new (o := .lst []) nb1
      have f2 := Same.new (o := .lst [.int t, .ref b1]) f1 na1
      have hb1 : upd (upd H4 b1 (.lst [])) a1 (.lst [.int t, .ref b1]) b1 = some (.lst []) := keep_new na1 upd_same
      have ha1 : upd (upd H4 b1 (.lst [])) a1 (.lst [.int t, .ref b1]) a1 = some (.lst [.int t, .ref b1]) := upd_same
      have nab : a1 ≠ b1 := (ne_of_none upd_same na1).symm
      have na1' : H4 a1 = none := Same.free f1 na1
      generalize upd (upd H4 b1 (.lst [])) a1 (.lst [.int t, .ref b1]) = H5 at f2 hb1 ha1 ⊢
      have hsp5 := f2 _ _ hsp4
      refine ⟨sp, _, _, rfl, rfl, hsp5, small_lt (by omega), ?_⟩
      have f46 : ∀ x ∈ A, ∀ o, H4 x = some o → upd H5 sp (.lst (ss ++ [.ref a1])) x = some o := fun x hx o h => keep_ne (fun z => (List.nodup_cons.mp hN).1 (z ▸ hx)) (f2 _ _ h)
      have T46 : Ts H4 (upd H5 sp (.lst (ss ++ [.ref a1]))) := fun b ys h => keep_ne (ne_of (f2 _ _ h) hsp5 (by intro z; cases z)) (f2 _ _ h)
      have nsa : sp ≠ a1 := ne_of_none hsp4 na1'
      have nsb : sp ≠ b1 := ne_of_none hsp4 nb1
      have naA : a1 ∉ A := fun h => hS4.some FrG.some a1 h na1'
      have nbA : b1 ∉ A := fun h => hS4.some FrG.some b1 h nb1
      refine ⟨_, _, _, _, _, [a1, b1] ++ A, .nil, body, (t, acc, r') :: fs, rfl, Same.mut (Same.trans e04 f2) nsp', upd_same, ⟨a1, [a1, b1], A, ss, rfl, rfl, ⟨b1, [], rfl, keep_ne nsa.symm ha1, keep_ne nsb.symm hb1, rfl⟩, hS4.keep (FrG.keep T46) f46⟩, ?_, ?_, hP, ?_⟩
      · have h3 := List.nodup_cons.mp hN
        simp [nsa, nsb, nab, naA, nbA, h3.1, h3.2]
      · intro x hx
        have : x = a1 ∨ x = b1 ∨ x ∈ A := by simpa using hx
        rcases this with rfl | rfl | h
        · exact Same.free e04 na1'
        · exact Same.free e04 nb1
        · exact hA0 x h
      · rw [← h2, List.append_assoc]
        rfl
    | nil =>
      cases fs with
      | nil => cases hD'
      | cons fr fs =>
        obtain ⟨t, x', y⟩ := fr
        have hD2 : Stp.again :: (y.code ++ Lp.tail fs) = c :: l.code.drop (i + 1) := hD'
        injection hD2 with h1 h2
        subst h1
        have hst' : H4 (ad i) = some (.tup [.str "again"]) := hst
        obtain ⟨t2, t9, hnn⟩ := Lp.plug_top (hP ▸ hO : (Lp.plug (acc.app .nil) ((t, x', y) :: fs)).Ok 8)
        rw [Lp.app_nil] at hnn hP hoe
        obtain ⟨a1, B, A', ss', rfl, rfl, ⟨b1, xs, rfl, ha1, hb1, hAt⟩, hS'⟩ := hS4
        have ha1' : H4 a1 = some (.lst [.int t, .ref b1]) := ha1
        have hAt' : acc.At H4 xs := hAt
        have hsl := hS'.len
        rw [frs_len] at hsl
        tm_at "s"
        refine ite_eqi (fun c => ?_) (fun _ => ?_)
        · rw [List.length_append, hsl] at c
          simp at c
          omega
        tm_at "s"
        refine ⟨_, _, _, _, rfl, rfl, .inl (SqL.of hsp4), atI_last _ _, ?_⟩
        tm_at "s"
        refine ⟨by tm_at "sz", fun z nz => ?_⟩
        have e5 := same_new (o := .lst []) nz
        refine st_eqLpL (e5 _ _ hb1) (hAt'.ts (Same.ts e5)) hoe (by omega) upd_same ?_
        have hni : acc.isNil = false := by
          cases hh : acc.isNil with
          | true => exact absurd (Lp.isNil_t hh) hnn
          | false => rfl
        rw [hni]
        have hsp5 := e5 _ _ hsp4
        have hS5 := hS'.keep (H' := upd H4 z (.lst [])) (FrG.keep (Same.ts e5)) (fun x _ o h => e5 x o h)
        have hb5 := e5 _ _ hb1
        have ha5 := e5 _ _ ha1'
        have hAt5 := hAt'.ts (Same.ts e5)
        have e05 := Same.trans e04 e5
        generalize upd H4 z (.lst []) = H5 at e5 hsp5 hS5 hb5 ha5 hAt5 e05 ⊢
        tm_at "s"
        refine ⟨sp, _, _, rfl, rfl, hsp5, (by simp : _ = some (V.ref a1)), ?_⟩
        rw [List.dropLast_concat]
        have h3 := List.nodup_cons.mp hN
        have h4 := List.nodup_append.mp h3.2
        have nsa : sp ≠ a1 := fun z => h3.1 (by simp [z])
        have nsb : sp ≠ b1 := fun z => h3.1 (by simp [z])
        have nsA : sp ∉ A' := fun z => h3.1 (by simp [z])
        have T56 : Ts H5 (upd H5 sp (.lst ss')) := fun b ys h => keep_ne (ne_of h hsp5 (by intro z; cases z)) h
        have e06 : Same H (upd H5 sp (.lst ss')) := Same.mut e05 nsp'
        have hS6 := hS5.keep (H' := upd H5 sp (.lst ss')) (FrG.keep T56) (fun x hx o h => keep_ne (fun z => nsA (z ▸ hx)) h)
        have ha6 : upd H5 sp (.lst ss') a1 = some (.lst [.int t, .ref b1]) := keep_ne nsa.symm ha5
        have hb6 : upd H5 sp (.lst ss') b1 = some (.lst xs) := keep_ne nsb.symm hb5
        have hAt6 := hAt5.ts T56
        have hsp6 : upd H5 sp (.lst ss') sp = some (.lst ss') := upd_same
        generalize upd H5 sp (.lst ss') = H6 at T56 e06 hS6 ha6 hb6 hAt6 hsp6 ⊢
        refine ⟨a1, _, rfl, SqL.of ha6, rfl, ?_⟩
        tm_at "s"
        obtain ⟨v, rest, hfr⟩ := frs_cons fs
        rw [hfr] at hS6
        obtain ⟨a2, B, A2, ss2, rfl, rfl, ⟨b2, xs2, rfl, ha2, hb2, hAt2⟩, hS2⟩ := hS6
        have ha2' : H6 a2 = some (.lst [v, .ref b2]) := ha2
        have hAt2' : x'.At H6 xs2 := hAt2
        refine ⟨_, _, _, _, rfl, rfl, .inl (SqL.of hsp6), atI_last _ _, ?_⟩
        tm_at "s"
        refine ⟨_, _, rfl, .inl ⟨SqL.of hb6, fun p np => ?_⟩⟩
        have e7 := same_new (o := .tup xs) np
        have hp7 : upd H6 p (.tup xs) p = some (.tup xs) := upd_same
        tm_at "s"
        refine ⟨by tm_at "sz", fun p2 np2 => ?_⟩
        have e8 := Same.new (o := .tup [.int t, .ref p]) e7 np2
        have hp8 : upd (upd H6 p (.tup xs)) p2 (.tup [.int t, .ref p]) p2 = some (.tup [.int t, .ref p]) := upd_same
        have hp7' := keep_new (o := .tup [.int t, .ref p]) np2 hp7
        generalize upd (upd H6 p (.tup xs)) p2 (.tup [.int t, .ref p]) = H8 at e8 hp8 hp7' ⊢
        have hb28 := e8 _ _ hb2
        have hx2l : xs2.length ≤ 2000 := by
          rw [hAt2'.len]
          have hh : (Lp.plug (x'.app (.rep t acc y)) fs).Ok 8 := hP ▸ hO
          obtain ⟨⟨e', hoe', _⟩, hsz'⟩ := Lp.plug_ok hh
          have := Lp.len_le (Lp.ok_app_l hoe')
          have hP' : Lp.plug (x'.app (.rep t acc y)) fs = l := hP
          rw [hP', Lp.size_app] at hsz'
          omega
        refine ⟨b2, _, _, rfl, rfl, hb28, small_lt (by omega), ?_⟩
        have hb20 : H b2 = none := hA0 b2 (by simp)
        have T69 : Ts H6 (upd H8 b2 (.lst (xs2 ++ [.ref p2]))) := fun b ys h => keep_ne (ne_of (e8 _ _ h) hb28 (by intro z; cases z)) (e8 _ _ h)
        have h9 := h4.2.1
        have nab2 : a2 ≠ b2 := by
          intro h
          rw [h] at h9
          simp at h9
        have nsb2 : sp ≠ b2 := fun z => nsA (by simp [z])
        have nbp2 : p2 ≠ b2 := ne_of hp8 hb28 (by intro z; cases z)
        have nbp : p ≠ b2 := ne_of hp7' hb28 (by intro z; cases z)
        refine ⟨_, _, _, _, _, [a2, b2] ++ A2, x'.app (.rep t acc .nil), y, fs, rfl, Same.mut (Same.trans e06 e8) hb20, keep_ne nsb2 (e8 _ _ hsp6), ?_, ?_, (fun x hx => hA0 x (List.mem_append.mpr (.inr hx))), ?_, h2.symm⟩
        · rw [hfr]
          refine ⟨a2, [a2, b2], A2, ss2, rfl, rfl, ⟨b2, _, rfl, keep_ne nab2 (e8 _ _ ha2), upd_same, Lp.At.app (y := .rep t acc .nil) ⟨p2, p, xs, [], rfl, keep_ne nbp2 hp8, keep_ne nbp hp7', hAt6.ts T69, rfl⟩ (hAt2.ts T69)⟩, hS2.keep (FrG.keep T69) fun x hx o h => keep_ne ?_ (e8 _ _ h)⟩
          intro h2
          rw [h2] at hx
          simp [hx] at h9
        · exact List.nodup_cons.mpr ⟨nsA, h9⟩
        · rw [Lp.app_assoc]
          exact hP
  · rintro σ H2 ⟨x2, x3, x4, x5, ss, A, acc, r, fs, rfl, e2, hsp, hS, hN, hA0, hP, hD⟩
    rw [tab_len, List.drop_length] at hD
    cases r with
    | box bb r' => cases hD
    | rep t body r' => cases hD
    | nil =>
      cases fs with
      | cons fr fs => cases hD
      | nil =>
        obtain ⟨a1, B, A', ss', rfl, rfl, ⟨b1, xs, rfl, ha1, hb1, hAt⟩, hS'⟩ := hS
        obtain ⟨rfl, rfl⟩ := hS'
        have hPl : acc = l := (Lp.app_nil acc).symm.trans hP
        subst hPl
        have ha1' : H2 a1 = some (.lst [.non, .ref b1]) := ha1
        have hsp' : H2 sp = some (.lst [.ref a1]) := hsp
        have hAt' : acc.At H2 xs := hAt
        tm_at "s"
        refine ⟨_, _, rfl, .inl ⟨SqL.of hb1, fun p np => ?_⟩⟩
        have e3 := same_new (o := .tup xs) np
        tm_at "s"
        refine ⟨p, acc, rfl, ⟨xs, upd_same, hAt'.ts (Same.ts e3)⟩, hO, hz, fun H4 e4 => ?_⟩
        tm_at "s"
        exact q _ H4 (Same.trans e2 (Same.trans e3 e4))
end
end Rf
namespace Rf
open PySem PySem.Spec L2
local macro_rules | `(tactic| tm_at "hp") => `(tactic| (first | assumption | exact FlowAt.top (by assumption) | exact FlowAt.all (by assumption) | exact FlowAt.pipe (by assumption) _ (by assumption) | exact upd_same | (refine keep_new (by assumption) ?_; tm_at "hp")))
local macro_rules | `(tactic| tm_at "sq") => `(tactic| (first | exact .inl (by assumption) | exact .inr (by assumption) | exact .inr (SqT.of (by tm_at "hp")) | exact .inl (SqL.of (by tm_at "hp"))))
local macro_rules | `(tactic| tm_at "at") => `(tactic| (first | rfl | exact itab_at (by assumption) | exact tab_at (by assumption) | (refine itab_atI ?_ ?_ <;> assumption)))
local macro_rules | `(tactic| tm_at "ix") => `(tactic| (refine' ⟨_, _, _, _, rfl, rfl, ?hs, ?ha, ?_⟩; (case hs => tm_at "sq"); (case ha => tm_at "at")))
local macro_rules | `(tactic| tm_at "len") => `(tactic| (refine' ⟨_, _, rfl, ?hs, ?_⟩; (case hs => tm_at "sq"); (first | rw [itab_len] | rw [tab_len] | rw [List.length_map] | skip)))
local macro_rules | `(tactic| tm_at "rg") => `(tactic| (refine ⟨rg_lo, rg_hi (by omega), ?_⟩))
local macro_rules | `(tactic| tm_at "rgi") => `(tactic| (refine ⟨rgi_lo (by omega), rgi_hi (by omega), ?_⟩))
local macro_rules | `(tactic| tm_at "ut") => `(tactic| (refine' ⟨_, _, rfl, ?hs, ?hl, ?_⟩; (case hs => exact SqT.of (by tm_at "hp")); (case hl => rfl)))
local macro_rules | `(tactic| tm_at "s") => `(tactic| repeat (first | refine ⟨_, rfl, ?_⟩ | refine ⟨_, _, rfl, rfl, ?_⟩ | tm_at "ix" | tm_at "len" | tm_at "ut" | refine ⟨rfl, ?_⟩ | refine ⟨_, _, rfl, ?_⟩ | refine ⟨_, _, _, rfl, ?_⟩ | refine Or.inl ⟨_, rfl, ?_⟩ | refine ⟨Or.inl ⟨rfl, _, SqL.of (by tm_at "hp")⟩, ?_⟩))
local macro_rules | `(tactic| tm_at "tl") => `(tactic| (refine' ⟨_, _, rfl, Or.inl ⟨SqL.of ?hs, ?_⟩⟩; (case hs => tm_at "hp")))
local macro_rules | `(tactic| tm_at "set") => `(tactic| (refine' ⟨_, _, _, _, rfl, rfl, ?hs, ?hj, ?_⟩; (case hs => tm_at "hp"); (case hj => (first | rfl | exact tab_ixN (by assumption)))))
local macro_rules | `(tactic| tm_at "sz") => `(tactic| (first | exact small_ok (Nat.le_of_ble_eq_true rfl) | exact Nat.le_of_ble_eq_true rfl))
local macro_rules | `(tactic| tm_at "acc") => `(tactic| (refine' ⟨_, ?ha, ?hz, ?_⟩; (case ha => tm_at "hp"); (case hz => (first | rw [itab_len] | rw [tab_len] | rw [List.length_map] | skip); exact small_lt (by omega))))
local macro_rules | `(tactic| tm_at "ap") => `(tactic| (refine' ⟨_, _, _, rfl, rfl, ?hs, ?hz, ?_⟩; (case hs => tm_at "hp")))
local macro_rules | `(tactic| tm_at "sm") => `(tactic| (first | assumption | exact Same.refl _ | (refine Same.new ?_ (by assumption); tm_at "sm") | (refine Same.mut ?_ (by assumption); tm_at "sm")))
section
variable {P : Program} {w : World} {K : PySem.W.Frag} {mg : Str → Option Value} {base : Heap}

def WkInv (H : Hp) (l : Lp) (a fd sp : Addr) (m : Nat) (σ : L2.St) (H2 : Hp) : Prop := ∃ (x4 : Option V) (at' d : Nat) (r : Lp) (fs : List Lp.Fr) (is : List Nat) (us : List Int) (ss : List V) (A : List Addr), σ = [some (.ref a), some (.ref fd), some (.ref sp), some (.int at'), x4] ∧
  Same H H2 ∧ H2 fd = some (.lst (is.map fun (i : Nat) => V.int i)) ∧ H2 sp = some (.lst ss) ∧ StkAt WkG H2 fs ss A ∧ (sp :: fd :: A).Nodup ∧ (∀ x ∈ A, H x = none) ∧
  r.cost + Lp.costW fs = m ∧ l.code.drop at' = r.code ++ Lp.tailW fs ∧ r.Ok d ∧ Lp.FrOk l.code d fs ∧ l.unr = us ++ (r.unr ++ Lp.unrW fs) ∧ is.length = us.length ∧
  ∀ (k i : Nat) (b : Int), is[k]? = some i → us[k]? = some b → l.code[i]? = some (.fire b)
theorem ok_walk (D : Df K mg "walk" s_walk p_walk) (T : Tx mg) : Ca P w K mg base CX0 1 "walk" p_walk spWalk := by
  obtain ⟨f0, fd0, F0, gf0, bf0⟩ := D
  refine ⟨f0, fd0, ?_, gf0, F0.kp, bf0⟩
  refine F0.ok sc_walk (fun vs H Q E h => ?_) (fun cdv A outer s0 H vs Q E hr h => ?_)
  · obtain ⟨a, l, ad, rfl, _⟩ := h
    rfl
  obtain ⟨a, l, ad, rfl, hC, hO, hz, q⟩ := h
  refine ⟨_, (pss_cons (ps_par3 (i := 1) (j := 2) (l := 3) (by rfl) sc_walk.nd rfl rfl rfl (by decide) (by decide) (by decide) rfl rfl rfl (pa_cons (pe_lst pa_nil) (pa_cons (pe_lst pa_nil) (pa_cons pe_int pa_nil))) (by rfl)) (pss_cons (ps_while PassesOwn.never (pt_cmpR op_lt (pv 3) (pe_callB (call_lenK (K := K) rfl) (by rfl) T.z_len PySem.boot_len (pa_cons (pv 0) pa_nil)) (nomark _)) (pss_cons (ps_set (i := 4) sc_walk.nd rfl (.inl rfl) (pe_ix (ix_ltK (K := K) rfl) (pv 0) (pv 3) (fun _ _ => rfl))) (pss_cons (ps_if (pt_cmpR op_eq (pe_ix (ix_ltK (K := K) rfl) (pv 4) pe_int (fun _ _ => rfl)) pe_str (nomark _)) (pss_one (ps_expr (pe_bm PySem.F.plainAttrs_list PySem.F.slot_list_append PySem.F.type_list_append mt_append (pv 1) (pa_cons (pv 3) pa_nil)))) (pss_one (ps_if (pt_cmpR op_eq (pe_ix (ix_ltK (K := K) rfl) (pv 4) pe_int (fun _ _ => rfl)) pe_str (nomark _)) (pss_one (ps_expr (pe_bm PySem.F.plainAttrs_list PySem.F.slot_list_append PySem.F.type_list_append mt_append (pv 2) (pa_cons (pe_lst (pa_cons (pv 3) (pa_cons (pe_ix (ix_ltK (K := K) rfl) (pv 4) pe_int (fun _ _ => rfl)) pa_nil))) pa_nil)))) (pss_cons (ps_augS (pe_ix (ix_ltK (K := K) rfl) (pv 2) (pe_un un_neg pe_int) (fun _ _ => rfl)) pe_int get_list pe_int ip_sub set_list) (pss_one (ps_if (pt_cmpR op_gt (pe_ix (ix_ltK (K := K) rfl) (pe_ix (ix_ltK (K := K) rfl) (pv 2) (pe_un un_neg pe_int) (fun _ _ => rfl)) pe_int (fun _ _ => rfl)) pe_int (nomark _)) (pss_one (ps_set (i := 3) sc_walk.nd rfl (.inl rfl) (pe_ix (ix_ltK (K := K) rfl) (pe_ix (ix_ltK (K := K) rfl) (pv 2) (pe_un un_neg pe_int) (fun _ _ => rfl)) pe_int (fun _ _ => rfl)))) (pss_one (ps_expr (pe_bm0 PySem.F.plainAttrs_list PySem.F.slot_list_pop PySem.F.type_list_pop mt_pop (pv 2)))))))))) (pss_one (ps_aug (i := 3) sc_walk.nd rfl (.inl rfl) pe_int ip_add))))) (pss_one (ps_ret (pv 1))))), ?_⟩
  have hcl : l.code.length ≤ 6000 := Nat.le_trans (Lp.code_len hO) (by omega)
  tm_at "s"
  refine ⟨by tm_at "sz", fun fd nfd => ?_⟩
  tm_at "s"
  refine ⟨by tm_at "sz", fun sp nsp => ?_⟩
  tm_at "s"
  have f1 := same_new (o := .lst []) nfd
  have e1 := Same.new (o := .lst []) f1 nsp
  have hfd : upd (upd H fd (.lst [])) sp (.lst []) fd = some (.lst []) := keep_new nsp upd_same
  have hsp : upd (upd H fd (.lst [])) sp (.lst []) sp = some (.lst []) := upd_same
  have nsp' : H sp = none := Same.free f1 nsp
  have nsf : sp ≠ fd := (ne_of_none upd_same nsp).symm
  generalize upd (upd H fd (.lst [])) sp (.lst []) = H1 at e1 hfd hsp ⊢
  clear f1 nsp
  refine ⟨WkInv H l a fd sp, ⟨_, none, 0, 8, l, [], [], [], [], [], rfl, e1, hfd, hsp, ⟨rfl, rfl⟩, by simp [nsf], (fun x hx => by cases hx), rfl, (List.append_nil _).symm, hO, rfl, (List.append_nil _).symm, rfl, (fun k i b h => by cases h)⟩, ?_⟩
  clear e1 hfd hsp H1
  rintro m σ H2 ⟨x4, i, d, r, fs, is, us, ss, A, rfl, e2, hfd, hsp, hS, hN, hA0, hm, hD, hOr, hFr, hU, hil, hcon⟩
  have hC2 := hC.ts (Same.ts e2)
  have hCt := hC2.1
  have hlen := congrArg List.length hU
  rw [List.length_append, Lp.unr_len] at hlen
  tm_at "s"
  refine ite_dec (fun c => ?_) (fun c => ?_)
  · have hi : i < l.code.length := by omega
    obtain ⟨c, hc⟩ : ∃ c, l.code[i]? = some c := ⟨l.code[i], List.getElem?_eq_getElem hi⟩
    have hcok : c.Ok := Lp.code_ok hO (List.mem_of_getElem? hc)
    have hst := hC2.2 i c hc
    have hD' := drop_step hc hD
    have hfl := hFr.len
    have hsl := hS.len
    have n1 := List.nodup_cons.mp hN
    have n2 := List.nodup_cons.mp n1.2
    refine ⟨fun σ' H' => ∃ m', m' < m ∧ WkInv H l a fd sp m' σ' H', fun σ' H' h => h, ?_⟩
    tm_at "s"
    cases r with
    | box b r' =>
      have hD2 : Stp.fire b :: (r'.code ++ Lp.tailW fs) = c :: l.code.drop (i + 1) := hD'
      injection hD2 with h1 h2
      subst h1
      have hst' : H2 (ad i) = some (.tup [.str "fire", .int b]) := hst
      tm_at "s"
      refine ⟨fd, _, _, rfl, rfl, hfd, small_lt (by rw [List.length_map]; omega), ?_⟩
      tm_at "s"
      have T3 : Ts H2 (upd H2 fd (.lst ((is.map fun (i : Nat) => V.int i) ++ [.int (i : Int)]))) := fun b ys h => keep_ne (ne_of h hfd (by intro z; cases z)) h
      refine ⟨_, ?_, _, i + 1, d, r', fs, is ++ [i], us ++ [b], ss, A, rfl, Same.mut e2 nfd, ?_, keep_ne (fun z => n1.1 (by simp [z])) hsp, hS.keep WkG.keep (fun x hx o h => keep_ne (fun z => n2.1 (z ▸ hx)) h), hN, hA0, rfl, h2.symm, (Lp.ok_box hOr).2.2, hFr, ?_, ?_, ?_⟩
      · rw [← hm]
        show r'.cost + _ < 1 + r'.cost + _
        omega
      · rw [upd_same, List.map_append]
        rfl
      · rw [hU, List.append_assoc]
        rfl
      · rw [List.length_append, List.length_append, hil]
        rfl
      · intro k j b' h3 h4
        rw [List.getElem?_append] at h3 h4
        by_cases hk : k < is.length
        · rw [if_pos hk] at h3
          rw [if_pos (by omega)] at h4
          exact hcon k j b' h3 h4
        · rw [if_neg hk] at h3
          rw [if_neg (by omega), ← hil] at h4
          have hk0 : k - is.length = 0 := by
            have := (List.getElem?_eq_some_iff.mp h3).1
            simp at this
            omega
          rw [hk0] at h3 h4
          cases h3
          cases h4
          exact hc
    | rep t body r' =>
      have hD2 : Stp.rep t :: ((body.code ++ .again :: r'.code) ++ Lp.tailW fs) = c :: l.code.drop (i + 1) := hD'
      injection hD2 with h1 h2
      subst h1
      have hst' : H2 (ad i) = some (.tup [.str "repeat", .int t]) := hst
      obtain ⟨d', rfl, t2, t9, hnn, hbo, hro⟩ := Lp.ok_rep hOr
      tm_at "s"
      refine ⟨by tm_at "sz", fun a1 na1 => ?_⟩
      have e3 := same_new (o := .lst [.int (i : Int), .int t]) na1
      have ha1 : upd H2 a1 (.lst [.int (i : Int), .int t]) a1 = some (.lst [.int (i : Int), .int t]) := upd_same
      generalize upd H2 a1 (.lst [.int (i : Int), .int t]) = H3 at e3 ha1 ⊢
      have hsp3 := e3 _ _ hsp
      refine ⟨sp, _, _, rfl, rfl, hsp3, small_lt (by omega), ?_⟩
      tm_at "s"
      have nsa : a1 ≠ sp := (ne_of_none hsp na1).symm
      have nfa : a1 ≠ fd := (ne_of_none hfd na1).symm
      have naA : a1 ∉ A := fun h => hS.some WkG.some a1 h na1
      refine ⟨_, ?_, _, i + 1, d', body, (i, t.toNat, body, r') :: fs, is, us, ss ++ [.ref a1], [a1] ++ A, rfl, Same.mut (Same.trans e2 e3) nsp', keep_ne (fun z => n1.1 (by simp [z])) (e3 _ _ hfd), upd_same, ⟨a1, [a1], A, ss, rfl, rfl, ⟨rfl, ?_⟩, hS.keep WkG.keep (fun x hx o h => keep_ne (fun z => n1.1 (by simp [← z, hx])) (e3 _ _ h))⟩, ?_, ?_, rfl, ?_, hbo, ⟨by omega, by omega, hbo, hro, ?_, hFr⟩, ?_, hil, hcon⟩
      · rw [← hm]
        show body.cost + (1 + (t.toNat - 1) * (body.cost + 1) + (r'.cost + Lp.costW fs)) < 1 + t.toNat * (body.cost + 1) + r'.cost + Lp.costW fs
        obtain ⟨t', ht'⟩ : ∃ t', t.toNat = t' + 1 := ⟨t.toNat - 1, by omega⟩
        rw [ht', Nat.add_sub_cancel, Nat.add_mul]
        omega
      · refine keep_ne nsa ?_
        show H3 a1 = some (.lst [.int (i : Nat), .int (t.toNat : Nat)])
        rw [ha1, Int.toNat_of_nonneg (by omega)]
      · have hA1 : sp ∉ A := fun h => n1.1 (by simp [h])
        simp [nsa.symm, nfa.symm, naA, n2.1, n2.2, hA1, show sp ≠ fd from fun z => n1.1 (by simp [z])]
      · intro x hx
        have : x = a1 ∨ x ∈ A := by simpa using hx
        rcases this with rfl | h
        · exact Same.free e2 na1
        · exact hA0 x h
      · rw [← h2, List.append_assoc]
        rfl
      · rw [← h2, List.append_assoc]
        rfl
      · rw [hU]
        show us ++ ((List.replicate t.toNat body.unr).flatten ++ r'.unr ++ Lp.unrW fs) = us ++ (body.unr ++ ((List.replicate (t.toNat - 1) body.unr).flatten ++ (r'.unr ++ Lp.unrW fs)))
        obtain ⟨t', ht'⟩ : ∃ t', t.toNat = t' + 1 := ⟨t.toNat - 1, by omega⟩
        rw [ht', Nat.add_sub_cancel, List.replicate_succ, List.flatten_cons, List.append_assoc, List.append_assoc]
    | nil =>
      cases fs with
      | nil => cases hD'
      | cons fr fs =>
        obtain ⟨p, cc, bo, y⟩ := fr
        have hD2 : Stp.again :: (y.code ++ Lp.tailW fs) = c :: l.code.drop (i + 1) := hD'
        injection hD2 with h1 h2
        subst h1
        have hst' : H2 (ad i) = some (.tup [.str "again"]) := hst
        obtain ⟨c1, c9, hbo, hy, hdp, hFr'⟩ := hFr
        obtain ⟨a1, B, A', ss', rfl, rfl, ⟨rfl, ha1⟩, hS'⟩ := hS
        have ha1' : H2 a1 = some (.lst [.int (p : Int), .int (cc : Int)]) := ha1
        have n3 := List.nodup_cons.mp n2.2
        have nsa : sp ≠ a1 := fun z => n1.1 (by simp [z])
        have nfa : fd ≠ a1 := fun z => n2.1 (by simp [z])
        have nsA : sp ∉ A' := fun z => n1.1 (by simp [z])
        have nsf : sp ≠ fd := fun z => n1.1 (by simp [z])
        have ha0 := hA0 a1 (by simp)
        have hm' : 1 + (cc - 1) * (bo.cost + 1) + (y.cost + Lp.costW fs) = m := by
          rw [← hm]
          show _ = 0 + (1 + (cc - 1) * (bo.cost + 1) + (y.cost + Lp.costW fs))
          omega
        have hU' : l.unr = us ++ ((List.replicate (cc - 1) bo.unr).flatten ++ (y.unr ++ Lp.unrW fs)) := hU
        tm_at "s"
        refine ⟨_, _, _, _, rfl, rfl, .inl (SqL.of hsp), atI_last _ _, ?_⟩
        tm_at "s"
        refine ⟨a1, _, 1, _, rfl, rfl, ha1', rfl, ?_⟩
        tm_at "s"
        tm_at "set"
        have e3 : Same H (upd H2 a1 (.lst [.int (p : Int), .int ((cc : Int) - 1)])) := Same.mut e2 ha0
        have ha3 : upd H2 a1 (.lst [.int (p : Int), .int ((cc : Int) - 1)]) a1 = some (.lst [.int (p : Int), .int ((cc : Int) - 1)]) := upd_same
        have hsp3 : upd H2 a1 (.lst [.int (p : Int), .int ((cc : Int) - 1)]) sp = some (.lst (ss' ++ [.ref a1])) := keep_ne nsa hsp
        have hfd3 : upd H2 a1 (.lst [.int (p : Int), .int ((cc : Int) - 1)]) fd = some (.lst (is.map fun (i : Nat) => V.int i)) := keep_ne nfa hfd
        have hS3 := hS'.keep (H' := upd H2 a1 (.lst [.int (p : Int), .int ((cc : Int) - 1)])) WkG.keep (fun x hx o h => keep_ne (fun z => n3.1 (z ▸ hx)) h)
        have eset : upd H2 a1 (HO.lst ([V.int (p : Int), V.int (cc : Int)].set (Int.toNat 1) (V.int ((fun i j => i - j) (cc : Int) 1)))) = upd H2 a1 (.lst [.int (p : Int), .int ((cc : Int) - 1)]) := rfl
        rw [eset]
        generalize upd H2 a1 (.lst [.int (p : Int), .int ((cc : Int) - 1)]) = H3 at e3 ha3 hsp3 hfd3 hS3 ⊢
        tm_at "s"
        refine ⟨_, _, _, _, rfl, rfl, .inl (SqL.of hsp3), atI_last _ _, ?_⟩
        tm_at "s"
        refine ite_dec (fun cp => ?_) (fun cp => ?_)
        · have hc2 : 2 ≤ cc := by
            have : (0 : Int) < (cc : Int) - 1 := cp
            omega
          tm_at "s"
          refine ⟨_, _, _, _, rfl, rfl, .inl (SqL.of hsp3), atI_last _ _, ?_⟩
          tm_at "s"
          obtain ⟨k, rfl⟩ : ∃ k, cc = k + 2 := ⟨cc - 2, by omega⟩
          refine ⟨_, ?_, _, p + 1, d, bo, (p, k + 1, bo, y) :: fs, is, us, ss' ++ [.ref a1], [a1] ++ A', rfl, e3, hfd3, hsp3, ⟨a1, [a1], A', ss', rfl, rfl, ⟨rfl, ?_⟩, hS3⟩, hN, hA0, rfl, ?_, hbo, ⟨by omega, by omega, hbo, hy, hdp, hFr'⟩, ?_, hil, hcon⟩
          · rw [← hm']
            show bo.cost + (1 + k * (bo.cost + 1) + (y.cost + Lp.costW fs)) < 1 + (k + 1) * (bo.cost + 1) + (y.cost + Lp.costW fs)
            rw [Nat.add_mul]
            omega
          · rw [ha3]
            show some (HO.lst [.int (p : Int), .int (((k + 2 : Nat) : Int) - 1)]) = some (HO.lst [.int (p : Int), .int ((k + 1 : Nat) : Int)])
            rw [show ((k + 2 : Nat) : Int) - 1 = ((k + 1 : Nat) : Int) by omega]
          · exact hdp
          · rw [hU']
            show us ++ ((List.replicate (k + 1) bo.unr).flatten ++ (y.unr ++ Lp.unrW fs)) = us ++ (bo.unr ++ ((List.replicate k bo.unr).flatten ++ (y.unr ++ Lp.unrW fs)))
            rw [List.replicate_succ, List.flatten_cons, List.append_assoc]
        · have hc1 : cc = 1 := by
            have : ¬ (0 : Int) < (cc : Int) - 1 := cp
            omega
          subst hc1
          tm_at "s"
          refine ⟨sp, _, _, rfl, rfl, hsp3, (by simp : _ = some (V.ref a1)), ?_⟩
          rw [List.dropLast_concat]
          tm_at "s"
          refine ⟨_, ?_, _, i + 1, d + 1, y, fs, is, us, ss', A', rfl, Same.mut e3 nsp', keep_ne nsf.symm hfd3, upd_same, hS3.keep WkG.keep (fun x hx o h => keep_ne (fun z => nsA (z ▸ hx)) h), ?_, (fun x hx => hA0 x (List.mem_append.mpr (.inr hx))), rfl, h2.symm, hy, hFr', ?_, hil, hcon⟩
          · rw [← hm']
            omega
          · have nfA : fd ∉ A' := fun z => n2.1 (by simp [z])
            exact List.nodup_cons.mpr ⟨by simp [nsf, nsA], List.nodup_cons.mpr ⟨nfA, n3.2⟩⟩
          · rw [hU']
            rfl
  · have hi : l.code.length ≤ i := by omega
    rw [List.drop_eq_nil_of_le hi] at hD
    cases r with
    | box bb r' => cases hD
    | rep t body r' => cases hD
    | nil =>
      cases fs with
      | cons fr fs =>
        obtain ⟨p, c, b, y⟩ := fr
        cases hD
      | nil =>
        tm_at "s"
        have hU' : l.unr = us := hU.trans (List.append_nil us)
        refine q fd is H2 e2 nfd hfd (by rw [hU', hil]) fun k j b h3 h4 => hcon k j b h3 ?_
        rw [← hU']
        exact h4
end
end Rf
namespace Rf
open PySem PySem.Spec L2
local macro_rules | `(tactic| tm_at "hp") => `(tactic| (first | assumption | exact FlowAt.top (by assumption) | exact FlowAt.all (by assumption) | exact FlowAt.pipe (by assumption) _ (by assumption) | exact upd_same | (refine keep_new (by assumption) ?_; tm_at "hp")))
local macro_rules | `(tactic| tm_at "sq") => `(tactic| (first | exact .inl (by assumption) | exact .inr (by assumption) | exact .inr (SqT.of (by tm_at "hp")) | exact .inl (SqL.of (by tm_at "hp"))))
local macro_rules | `(tactic| tm_at "at") => `(tactic| (first | rfl | exact itab_at (by assumption) | exact tab_at (by assumption) | (refine itab_atI ?_ ?_ <;> assumption)))
local macro_rules | `(tactic| tm_at "ix") => `(tactic| (refine' ⟨_, _, _, _, rfl, rfl, ?hs, ?ha, ?_⟩; (case hs => tm_at "sq"); (case ha => tm_at "at")))
local macro_rules | `(tactic| tm_at "len") => `(tactic| (refine' ⟨_, _, rfl, ?hs, ?_⟩; (case hs => tm_at "sq"); (first | rw [itab_len] | rw [tab_len] | rw [List.length_map] | skip)))
local macro_rules | `(tactic| tm_at "rg") => `(tactic| (refine ⟨rg_lo, rg_hi (by omega), ?_⟩))
local macro_rules | `(tactic| tm_at "rgi") => `(tactic| (refine ⟨rgi_lo (by omega), rgi_hi (by omega), ?_⟩))
local macro_rules | `(tactic| tm_at "ut") => `(tactic| (refine' ⟨_, _, rfl, ?hs, ?hl, ?_⟩; (case hs => exact SqT.of (by tm_at "hp")); (case hl => rfl)))
local macro_rules | `(tactic| tm_at "s") => `(tactic| repeat (first | refine ⟨_, rfl, ?_⟩ | refine ⟨_, _, rfl, rfl, ?_⟩ | tm_at "ix" | tm_at "len" | tm_at "ut" | refine ⟨rfl, ?_⟩ | refine ⟨_, _, rfl, ?_⟩ | refine ⟨_, _, _, rfl, ?_⟩ | refine Or.inl ⟨_, rfl, ?_⟩ | refine ⟨Or.inl ⟨rfl, _, SqL.of (by tm_at "hp")⟩, ?_⟩))
local macro_rules | `(tactic| tm_at "tl") => `(tactic| (refine' ⟨_, _, rfl, Or.inl ⟨SqL.of ?hs, ?_⟩⟩; (case hs => tm_at "hp")))
local macro_rules | `(tactic| tm_at "set") => `(tactic| (refine' ⟨_, _, _, _, rfl, rfl, ?hs, ?hj, ?_⟩; (case hs => tm_at "hp"); (case hj => (first | rfl | exact tab_ixN (by assumption)))))
local macro_rules | `(tactic| tm_at "sz") => `(tactic| (first | exact small_ok (Nat.le_of_ble_eq_true rfl) | exact Nat.le_of_ble_eq_true rfl))
local macro_rules | `(tactic| tm_at "acc") => `(tactic| (refine' ⟨_, ?ha, ?hz, ?_⟩; (case ha => tm_at "hp"); (case hz => (first | rw [itab_len] | rw [tab_len] | rw [List.length_map] | skip); exact small_lt (by omega))))
local macro_rules | `(tactic| tm_at "ap") => `(tactic| (refine' ⟨_, _, _, rfl, rfl, ?hs, ?hz, ?_⟩; (case hs => tm_at "hp")))
local macro_rules | `(tactic| tm_at "sm") => `(tactic| (first | assumption | exact Same.refl _ | (refine Same.new ?_ (by assumption); tm_at "sm") | (refine Same.mut ?_ (by assumption); tm_at "sm")))
section
variable {P : Program} {w : World} {K : PySem.W.Frag} {mg : Str → Option Value} {base : Heap}

theorem ok_need_all (D : Df K mg "need_all" s_need_all p_need_all) (T : Tx mg) (C_need_flow : Ca P w K mg base CX0 3 "need_flow" p_need_flow spNeedFlow) (C_loop_of : Ca P w K mg base CX0 11 "loop_of" p_loop_of spLoopOf) (C_need_room : Ca P w K mg base CX0 2 "need_room" p_need_room spNeedRoom) : Ca P w K mg base CX0 12 "need_all" p_need_all spNeedAll := by
  obtain ⟨f_need_flow, fd_need_flow, G_need_flow, m_need_flow, k_need_flow, b_need_flow⟩ := C_need_flow
  obtain ⟨f_loop_of, fd_loop_of, G_loop_of, m_loop_of, k_loop_of, b_loop_of⟩ := C_loop_of
  obtain ⟨f_need_room, fd_need_room, G_need_room, m_need_room, k_need_room, b_need_room⟩ := C_need_room
  obtain ⟨f0, fd0, F0, gf0, bf0⟩ := D
  refine ⟨f0, fd0, ?_, gf0, F0.kp, bf0⟩
  refine F0.ok sc_need_all (fun vs H Q E h => ?_) (fun cdv A outer s0 H vs Q E hr h => ?_)
  · obtain ⟨f, ca, ra, n, m, Pi, rm, l, pa, ad, cad, rfl, _⟩ := h
    rfl
  obtain ⟨f, ca, ra, n, m, Pi, rm, l, pa, ad, cad, rfl, hF, hO, hC, hl, hz, hra, hrm, q⟩ := h
  refine ⟨_, (pss_cons (ps_expr (pe_call G_need_flow (hr.mono (by decide)) (by rfl) m_need_flow k_need_flow b_need_flow .nil pass0 (pa_cons (pv 0) pa_nil))) (pss_cons (ps_expr (pe_call G_loop_of (hr.mono (by decide)) (by rfl) m_loop_of k_loop_of b_loop_of .nil pass0 (pa_cons (pv 1) pa_nil))) (pss_one (ps_expr (pe_call G_need_room (hr.mono (by decide)) (by rfl) m_need_room k_need_room b_need_room .nil pass0 (pa_cons (pv 0) (pa_cons (pv 2) pa_nil))))))), ?_⟩
  tm_at "s"
  refine ⟨f, n, m, Pi, pa, ad, rfl, hF, hO, fun H1 e1 => ?_⟩
  tm_at "s"
  refine ⟨ca, l, cad, rfl, hC.ts (Same.ts e1), hl, hz, fun v H2 e2 => ?_⟩
  have e02 := Same.trans e1 e2
  have hra2 := e02 _ _ hra
  tm_at "s"
  refine ⟨f, ra, n, m, Pi, rm, pa, ad, rfl, hF.ts (Same.ts e02), hO, hra2, hrm, fun H3 e3 => ?_⟩
  exact q H3 (Same.trans e02 e3)
end
end Rf
namespace Rf
open PySem PySem.Spec L2
local macro_rules | `(tactic| tm_at "hp") => `(tactic| (first | assumption | exact FlowAt.top (by assumption) | exact FlowAt.all (by assumption) | exact FlowAt.pipe (by assumption) _ (by assumption) | exact upd_same | (refine keep_new (by assumption) ?_; tm_at "hp")))
local macro_rules | `(tactic| tm_at "sq") => `(tactic| (first | exact .inl (by assumption) | exact .inr (by assumption) | exact .inr (SqT.of (by tm_at "hp")) | exact .inl (SqL.of (by tm_at "hp"))))
local macro_rules | `(tactic| tm_at "at") => `(tactic| (first | rfl | exact itab_at (by assumption) | exact tab_at (by assumption) | (refine itab_atI ?_ ?_ <;> assumption)))
local macro_rules | `(tactic| tm_at "ix") => `(tactic| (refine' ⟨_, _, _, _, rfl, rfl, ?hs, ?ha, ?_⟩; (case hs => tm_at "sq"); (case ha => tm_at "at")))
local macro_rules | `(tactic| tm_at "len") => `(tactic| (refine' ⟨_, _, rfl, ?hs, ?_⟩; (case hs => tm_at "sq"); (first | rw [itab_len] | rw [tab_len] | rw [List.length_map] | skip)))
local macro_rules | `(tactic| tm_at "rg") => `(tactic| (refine ⟨rg_lo, rg_hi (by omega), ?_⟩))
local macro_rules | `(tactic| tm_at "rgi") => `(tactic| (refine ⟨rgi_lo (by omega), rgi_hi (by omega), ?_⟩))
local macro_rules | `(tactic| tm_at "ut") => `(tactic| (refine' ⟨_, _, rfl, ?hs, ?hl, ?_⟩; (case hs => exact SqT.of (by tm_at "hp")); (case hl => rfl)))
local macro_rules | `(tactic| tm_at "s") => `(tactic| repeat (first | refine ⟨_, rfl, ?_⟩ | refine ⟨_, _, rfl, rfl, ?_⟩ | tm_at "ix" | tm_at "len" | tm_at "ut" | refine ⟨rfl, ?_⟩ | refine ⟨_, _, rfl, ?_⟩ | refine ⟨_, _, _, rfl, ?_⟩ | refine Or.inl ⟨_, rfl, ?_⟩ | refine ⟨Or.inl ⟨rfl, _, SqL.of (by tm_at "hp")⟩, ?_⟩))
local macro_rules | `(tactic| tm_at "tl") => `(tactic| (refine' ⟨_, _, rfl, Or.inl ⟨SqL.of ?hs, ?_⟩⟩; (case hs => tm_at "hp")))
local macro_rules | `(tactic| tm_at "set") => `(tactic| (refine' ⟨_, _, _, _, rfl, rfl, ?hs, ?hj, ?_⟩; (case hs => tm_at "hp"); (case hj => (first | rfl | exact tab_ixN (by assumption)))))
local macro_rules | `(tactic| tm_at "sz") => `(tactic| (first | exact small_ok (Nat.le_of_ble_eq_true rfl) | exact Nat.le_of_ble_eq_true rfl))
local macro_rules | `(tactic| tm_at "acc") => `(tactic| (refine' ⟨_, ?ha, ?hz, ?_⟩; (case ha => tm_at "hp"); (case hz => (first | rw [itab_len] | rw [tab_len] | rw [List.length_map] | skip); exact small_lt (by omega))))
local macro_rules | `(tactic| tm_at "ap") => `(tactic| (refine' ⟨_, _, _, rfl, rfl, ?hs, ?hz, ?_⟩; (case hs => tm_at "hp")))
local macro_rules | `(tactic| tm_at "sm") => `(tactic| (first | assumption | exact Same.refl _ | (refine Same.new ?_ (by assumption); tm_at "sm") | (refine Same.mut ?_ (by assumption); tm_at "sm")))
section
variable {P : Program} {w : World} {K : PySem.W.Frag} {mg : Str → Option Value} {base : Heap}

/-- the fields of a Cells -/
def cf (f r s h : Addr) : List (Str × V) := [("flow", .ref f), ("room", .ref r), ("some", .ref s), ("heads", .ref h)]
abbrev cf1 (f : Addr) : List (Str × V) := [("flow", .ref f)]
abbrev cf2 (f r : Addr) : List (Str × V) := [("flow", .ref f), ("room", .ref r)]
abbrev cf3 (f r s : Addr) : List (Str × V) := [("flow", .ref f), ("room", .ref r), ("some", .ref s)]
section
variable {f r s s' h : Addr}
theorem cf_flow : (cf f r s h).lookup ("flow" : Str) = some (.ref f) := by rfl
theorem cf_room : (cf f r s h).lookup ("room" : Str) = some (.ref r) := by rfl
theorem cf_some : (cf f r s h).lookup ("some" : Str) = some (.ref s) := by rfl
theorem cf_heads : (cf f r s h).lookup ("heads" : Str) = some (.ref h) := by rfl
theorem cf_put : putF "some" (.ref s') (cf f r s h) = cf f r s' h := by rfl
theorem cf_1 : putF "flow" (.ref f) [] = cf1 f := by rfl
theorem cf_2 : putF "room" (.ref r) (cf1 f) = cf2 f r := by rfl
theorem cf_3 : putF "some" (.ref s) (cf2 f r) = cf3 f r s := by rfl
theorem cf_4 : putF "heads" (.ref h) (cf3 f r s) = cf f r s h := by rfl
theorem cf_fire : (cf f r s h).lookup ("fire" : Str) = none := by rfl
end
/-- what the written part says of Cells -/
structure ClTxt (K : PySem.W.Frag) (C : Addr) : Prop where
  cl : Cls K C
  nF : NoAttr K C "flow"
  nR : NoAttr K C "room"
  nS : NoAttr K C "some"
  nH : NoAttr K C "heads"
def spCInit (C : Addr) : Sp := fun vs H Q _ => ∃ (H0 : Hp) (x dx f r : Addr) (n m : Nat) (P : Nat → Pipe) (rm : Nat → Int) (pa : Addr) (ad : Nat → Addr), vs = [.ref x, .ref f, .ref r] ∧ Same H0 H ∧ H0 x = none ∧ H x = some (.ins C dx []) ∧
  FlowAt H f n m P pa ad ∧ H r = some (.tup (itab m rm)) ∧ m ≤ 1000 ∧
  ∀ s h H', Same H0 H' → H0 h = none → H' x = some (.ins C dx (cf f r s h)) → H' s = some (.tup (itab m fun k => (P k).start)) → H' h = some (.lst (itab m fun _ => 0)) → Q .non H'
theorem ok_cinit {C f0 : Addr} {fd0 : FuncData} (F0 : Fun K "__init__" "Cells.__init__" s_Cells_init f0 fd0) (T : Tx mg) (TC : ClTxt K C) (C_marks_in : Ca P w K mg base CX0 1 "marks_in" p_marks_in spSome) : FnOk P w K mg base CX0 2 f0 fd0 p_Cells_init (spCInit C) := by
  obtain ⟨f_marks_in, fd_marks_in, G_marks_in, m_marks_in, k_marks_in, b_marks_in⟩ := C_marks_in
  refine F0.ok sc_Cells_init (fun vs H Q E h => ?_) (fun cdv A outer s0 H vs Q E hr h => ?_)
  · obtain ⟨H0, x, dx, f, r, n, m, Pi, rm, pa, ad, rfl, _⟩ := h
    rfl
  obtain ⟨H0, x, dx, f, r, n, m, Pi, rm, pa, ad, rfl, e0, hx0, hx, hF, hra, hm, q⟩ := h
  refine ⟨_, (pss_cons (ps_fld (pv 0) (pv 1) rfl) (pss_cons (ps_fld (pv 0) (pv 2) rfl) (pss_cons (ps_fld (pv 0) (pe_call G_marks_in (hr.mono (by decide)) (by rfl) m_marks_in k_marks_in b_marks_in .nil pass0 (pa_cons (pv 1) pa_nil)) rfl) (pss_one (ps_fld (pv 0) (pe_op op_rep (pe_lst (pa_cons pe_int pa_nil)) (pe_callB (call_lenK (K := K) rfl) (by rfl) T.z_len PySem.boot_len (pa_cons (pv 2) pa_nil))) rfl))))), ?_⟩
  have tsx : ∀ {H1 : Hp} {fs gs : List (Str × V)}, H1 x = some (.ins C dx fs) → Ts H1 (upd H1 x (.ins C dx gs)) := fun h b xs e => keep_ne (ne_of e h (by intro z; cases z)) e
  refine ⟨_, rfl, _, rfl, x, C, dx, _, rfl, hx, TC.cl, TC.nF, by decide, ?_⟩
  rw [cf_1]
  have T1 := tsx (gs := (cf1 f)) hx
  have e1 : Same H0 (upd H x (.ins C dx (cf1 f))) := Same.mut e0 hx0
  have hx1 : upd H x (.ins C dx (cf1 f)) x = some (.ins C dx (cf1 f)) := upd_same
  generalize upd H x (.ins C dx (cf1 f)) = H1 at T1 e1 hx1 ⊢
  refine ⟨_, rfl, _, rfl, x, C, dx, _, rfl, hx1, TC.cl, TC.nR, (show 1 < 1000 by decide), ?_⟩
  rw [cf_2]
  have T2 := Ts.trans T1 (tsx (gs := (cf2 f r)) hx1)
  have e2 : Same H0 (upd H1 x (.ins C dx (cf2 f r))) := Same.mut e1 hx0
  have hx2 : upd H1 x (.ins C dx (cf2 f r)) x = some (.ins C dx (cf2 f r)) := upd_same
  generalize upd H1 x (.ins C dx (cf2 f r)) = H2 at T2 e2 hx2 ⊢
  tm_at "s"
  refine ⟨_, n, m, Pi, pa, ad, rfl, hF.ts T2, hm, fun s H3 e3 hs3 => ?_⟩
  have hx3 := e3 _ _ hx2
  refine ⟨_, rfl, x, C, dx, _, rfl, hx3, TC.cl, TC.nS, (show 2 < 1000 by decide), ?_⟩
  rw [cf_3]
  have T34 := tsx (gs := (cf3 f r s)) hx3
  have e4 : Same H0 (upd H3 x (.ins C dx (cf3 f r s))) := Same.mut (Same.trans e2 e3) hx0
  have hx4 : upd H3 x (.ins C dx (cf3 f r s)) x = some (.ins C dx (cf3 f r s)) := upd_same
  have hs4 := T34 _ _ hs3
  have hra4 := T34 _ _ (e3 _ _ (T2 _ _ hra))
  generalize upd H3 x (.ins C dx (cf3 f r s)) = H4 at T34 e4 hx4 hs4 hra4 ⊢
  tm_at "s"
  refine ⟨by tm_at "sz", fun z nz => ?_⟩
  have e5 := same_new (o := .lst [.int 0]) nz
  have hra5 := e5 _ _ hra4
  tm_at "s"
  refine ⟨z, _, _, rfl, rfl, upd_same, by omega, by omega, small_ok (by show 1 * m ≤ _; omega), ?_⟩
  rw [Int.toNat_natCast, rep_itab]
  refine fun h nh => ?_
  have e6 := Same.new (o := .lst (itab m fun _ => 0)) e5 nh
  have hh0 : H0 h = none := Same.free (Same.trans e4 e5) nh
  have hh : upd (upd H4 z (.lst [.int 0])) h (.lst (itab m fun _ => 0)) h = some (.lst (itab m fun _ => 0)) := upd_same
  generalize upd (upd H4 z (.lst [.int 0])) h (.lst (itab m fun _ => 0)) = H6 at e6 hh ⊢
  have hx6 := e6 _ _ hx4
  refine ⟨_, rfl, x, C, dx, _, rfl, hx6, TC.cl, TC.nH, (show 3 < 1000 by decide), ?_⟩
  rw [cf_4]
  exact q s h _ (Same.mut (Same.trans e4 e6) hx0) hh0 upd_same (tsx hx6 _ _ (e6 _ _ hs4)) (keep_ne (ne_of hh hx6 (by intro z; cases z)) hh)
end
end Rf
namespace Rf
open PySem PySem.Spec L2
local macro_rules | `(tactic| tm_at "hp") => `(tactic| (first | assumption | exact FlowAt.top (by assumption) | exact FlowAt.all (by assumption) | exact FlowAt.pipe (by assumption) _ (by assumption) | exact upd_same | (refine keep_new (by assumption) ?_; tm_at "hp")))
local macro_rules | `(tactic| tm_at "sq") => `(tactic| (first | exact .inl (by assumption) | exact .inr (by assumption) | exact .inr (SqT.of (by tm_at "hp")) | exact .inl (SqL.of (by tm_at "hp"))))
local macro_rules | `(tactic| tm_at "at") => `(tactic| (first | rfl | exact itab_at (by assumption) | exact tab_at (by assumption) | (refine itab_atI ?_ ?_ <;> assumption)))
local macro_rules | `(tactic| tm_at "ix") => `(tactic| (refine' ⟨_, _, _, _, rfl, rfl, ?hs, ?ha, ?_⟩; (case hs => tm_at "sq"); (case ha => tm_at "at")))
local macro_rules | `(tactic| tm_at "len") => `(tactic| (refine' ⟨_, _, rfl, ?hs, ?_⟩; (case hs => tm_at "sq"); (first | rw [itab_len] | rw [tab_len] | rw [List.length_map] | skip)))
local macro_rules | `(tactic| tm_at "rg") => `(tactic| (refine ⟨rg_lo, rg_hi (by omega), ?_⟩))
local macro_rules | `(tactic| tm_at "rgi") => `(tactic| (refine ⟨rgi_lo (by omega), rgi_hi (by omega), ?_⟩))
local macro_rules | `(tactic| tm_at "ut") => `(tactic| (refine' ⟨_, _, rfl, ?hs, ?hl, ?_⟩; (case hs => exact SqT.of (by tm_at "hp")); (case hl => rfl)))
local macro_rules | `(tactic| tm_at "s") => `(tactic| repeat (first | refine ⟨_, rfl, ?_⟩ | refine ⟨_, _, rfl, rfl, ?_⟩ | tm_at "ix" | tm_at "len" | tm_at "ut" | refine ⟨rfl, ?_⟩ | refine ⟨_, _, rfl, ?_⟩ | refine ⟨_, _, _, rfl, ?_⟩ | refine Or.inl ⟨_, rfl, ?_⟩ | refine ⟨Or.inl ⟨rfl, _, SqL.of (by tm_at "hp")⟩, ?_⟩))
local macro_rules | `(tactic| tm_at "tl") => `(tactic| (refine' ⟨_, _, rfl, Or.inl ⟨SqL.of ?hs, ?_⟩⟩; (case hs => tm_at "hp")))
local macro_rules | `(tactic| tm_at "set") => `(tactic| (refine' ⟨_, _, _, _, rfl, rfl, ?hs, ?hj, ?_⟩; (case hs => tm_at "hp"); (case hj => (first | rfl | exact tab_ixN (by assumption)))))
local macro_rules | `(tactic| tm_at "sz") => `(tactic| (first | exact small_ok (Nat.le_of_ble_eq_true rfl) | exact Nat.le_of_ble_eq_true rfl))
local macro_rules | `(tactic| tm_at "acc") => `(tactic| (refine' ⟨_, ?ha, ?hz, ?_⟩; (case ha => tm_at "hp"); (case hz => (first | rw [itab_len] | rw [tab_len] | rw [List.length_map] | skip); exact small_lt (by omega))))
local macro_rules | `(tactic| tm_at "ap") => `(tactic| (refine' ⟨_, _, _, rfl, rfl, ?hs, ?hz, ?_⟩; (case hs => tm_at "hp")))
local macro_rules | `(tactic| tm_at "sm") => `(tactic| (first | assumption | exact Same.refl _ | (refine Same.new ?_ (by assumption); tm_at "sm") | (refine Same.mut ?_ (by assumption); tm_at "sm")))
section
variable {P : Program} {w : World} {K : PySem.W.Frag} {mg : Str → Option Value} {base : Heap}

local macro_rules | `(tactic| tm_at "fld") => `(tactic| (refine' ⟨_, _, _, _, _, rfl, ?hx, ?hc, ?hn, ?hl, ?_⟩; (case hx => tm_at "hp"); (case hl => first | exact cf_flow | exact cf_room | exact cf_some | exact cf_heads); (case hn => assumption); (case hc => assumption)))
local macro_rules | `(tactic| tm_at "S") => `(tactic| (tm_at "s"; repeat (tm_at "fld"; tm_at "s")))
theorem heap_eq {R : Hp → Prop} {H H' : Hp} (e : H = H') (h : R H') : R H := e ▸ h
/-- all but what stands at x and at h is as it was -/
def Kp2 (x h : Addr) (H H' : Hp) : Prop := ∀ b o, b ≠ x → b ≠ h → H b = some o → H' b = some o
def spFire (C : Addr) : Sp := fun vs H Q _ => ∃ (x dx f r s h : Addr) (box : Int) (n m : Nat) (P : Nat → Pipe) (rm ss e l : Nat → Int) (pa : Addr) (ad : Nat → Addr), vs = [.ref x, .int box] ∧ H x = some (.ins C dx (cf f r s h)) ∧
  FlowAt H f n m P pa ad ∧ FlowOk n m P 1000 ∧ H r = some (.tup (itab m rm)) ∧ H s = some (.tup (itab m ss)) ∧ H h = some (.lst (itab m fun k => e k % rm k)) ∧ (∀ k, k < m → 0 ≤ ss k ∧ ss k ≤ rm k ∧ l k = e k + ss k) ∧
  ((!fullM m P ss rm box && canM m P ss box) = true → ∀ p g y s' H', Kp2 x h H H' → H' p = some (.tup [.ref g, .ref y]) → PairsAt H' g (getsM m P e rm box) → PairsAt H' y (laysM m P l rm box) →
    H' x = some (.ins C dx (cf f r s' h)) → H' s' = some (.tup (itab m (nextM P ss box))) → H' h = some (.lst (itab m fun k => moreE P e box k % rm k)) → Q (.ref p) H') ∧
  ((!fullM m P ss rm box && canM m P ss box) = false → ∀ H', Same H H' → Q .non H')
theorem ok_fire {C f0 : Addr} {fd0 : FuncData} (F0 : Fun K "fire" "Cells.fire" s_Cells_fire f0 fd0) (T : Tx mg) (TC : ClTxt K C) (C_lacks : Ca P w K mg base CX0 1 "lacks" p_lacks spLacks) (C_behind : Ca P w K mg base CX0 1 "behind" p_behind spNext) : FnOk P w K mg base CX0 2 f0 fd0 p_Cells_fire (spFire C) := by
  obtain ⟨f_lacks, fd_lacks, G_lacks, m_lacks, k_lacks, b_lacks⟩ := C_lacks
  obtain ⟨f_behind, fd_behind, G_behind, m_behind, k_behind, b_behind⟩ := C_behind
  refine F0.ok sc_Cells_fire (fun vs H Q E h => ?_) (fun cdv A outer s0 H vs Q E hr h => ?_)
  · obtain ⟨x, dx, f, r, s, h, box, n, m, Pi, rm, ss, e, l, pa, ad, rfl, _⟩ := h
    rfl
  obtain ⟨x, dx, f, r, s, h, box, n, m, Pi, rm, ss, e, l, pa, ad, rfl, hx, hF, hO, hra, hss, hhs, hb, qy, qn⟩ := h
  have hm6 := hO.m6
  obtain ⟨tc, tF, tR, tS, tH⟩ := TC
  refine ⟨_, (pss_cons (ps_if (pt_cmpR op_notN (pe_call G_lacks (hr.mono (by decide)) (by rfl) m_lacks k_lacks b_lacks .nil pass0 (pa_cons (pe_fld (pv 0) rfl) (pa_cons (pe_fld (pv 0) rfl) (pa_cons (pv 1) pa_nil)))) pe_non (nomark _)) (pss_one (ps_ret pe_non)) pss_nil) (pss_cons (ps_par (i := 2) (j := 3) (by rfl) sc_Cells_fire.nd rfl rfl (by decide) rfl rfl (pa_cons (pe_lst pa_nil) (pa_cons (pe_lst pa_nil) pa_nil)) (by rfl)) (pss_cons (ps_for PassesOwn.never rfl (pi_enumTK (K := K) rfl (by rfl) T.z_enumerate (pa_cons (pe_ix (ix_ltK (K := K) rfl) (pe_fld (pv 0) rfl) pe_int (fun _ _ => rfl)) pa_nil)) (pg_tupK (K := K) rfl (by rfl) (pgs_cons (pg_name (i := 4) sc_Cells_fire.nd rfl (.inl rfl)) (pgs_cons (pg_tupK (K := K) rfl (by rfl) (pgs_cons (pg_name (i := 5) sc_Cells_fire.nd rfl (.inl rfl)) (pgs_cons (pg_name (i := 6) sc_Cells_fire.nd rfl (.inl rfl)) (pgs_cons (pg_name (i := 7) sc_Cells_fire.nd rfl (.inl rfl)) (pgs_cons (pg_name (i := 8) sc_Cells_fire.nd rfl (.inl rfl)) (pgs_cons (pg_name (i := 9) sc_Cells_fire.nd rfl (.inl rfl)) pgs_nil)))))) pgs_nil))) (pss_ct (ps_if (PW.pt (pw_and (pt_cmpR op_eq (pv 5) (pv 1) (nomark _)) (pw_and1 (pt_cmpR op_gt (pe_op op_add (pe_ix (ix_ltK (K := K) rfl) (pe_fld (pv 0) rfl) (pv 4) (fun _ _ => rfl)) (pv 7)) (pe_ix (ix_ltK (K := K) rfl) (pe_fld (pv 0) rfl) (pv 4) (fun _ _ => rfl)) (nomark _))))) (pss_one (ps_ret pe_non)) pss_nil) (pss_ct (ps_if (pt_cmpR op_eq (pv 5) (pv 1) (nomark _)) (pss_one (ps_expr (pe_bm PySem.F.plainAttrs_list PySem.F.slot_list_append PySem.F.type_list_append mt_append (pv 3) (pa_cons (pe_tup (pa_cons (pv 4) (pa_cons (pe_op op_mod (pe_op op_add (pe_ix (ix_ltK (K := K) rfl) (pe_fld (pv 0) rfl) (pv 4) (fun _ _ => rfl)) (pe_ix (ix_ltK (K := K) rfl) (pe_fld (pv 0) rfl) (pv 4) (fun _ _ => rfl))) (pe_ix (ix_ltK (K := K) rfl) (pe_fld (pv 0) rfl) (pv 4) (fun _ _ => rfl))) pa_nil))) pa_nil)))) pss_nil) (pss_one (ps_if (pt_cmpR op_eq (pv 6) (pv 1) (nomark _)) (pss_one (ps_expr (pe_bm PySem.F.plainAttrs_list PySem.F.slot_list_append PySem.F.type_list_append mt_append (pv 2) (pa_cons (pe_tup (pa_cons (pv 4) (pa_cons (pe_ix (ix_ltK (K := K) rfl) (pe_fld (pv 0) rfl) (pv 4) (fun _ _ => rfl)) pa_nil))) pa_nil)))) pss_nil))))) (pss_cons (ps_for PassesOwn.never rfl (pi_enumTK (K := K) rfl (by rfl) T.z_enumerate (pa_cons (pe_ix (ix_ltK (K := K) rfl) (pe_fld (pv 0) rfl) pe_int (fun _ _ => rfl)) pa_nil)) (pg_tupK (K := K) rfl (by rfl) (pgs_cons (pg_name (i := 4) sc_Cells_fire.nd rfl (.inl rfl)) (pgs_cons (pg_tupK (K := K) rfl (by rfl) (pgs_cons (pg_name (i := 5) sc_Cells_fire.nd rfl (.inl rfl)) (pgs_cons (pg_name (i := 6) sc_Cells_fire.nd rfl (.inl rfl)) (pgs_cons (pg_name (i := 7) sc_Cells_fire.nd rfl (.inl rfl)) (pgs_cons (pg_name (i := 8) sc_Cells_fire.nd rfl (.inl rfl)) (pgs_cons (pg_name (i := 9) sc_Cells_fire.nd rfl (.inl rfl)) pgs_nil)))))) pgs_nil))) (pss_one (ps_if (pt_cmpR op_eq (pv 6) (pv 1) (nomark _)) (pss_one (ps_asg (pe_op op_mod (pe_op op_add (pe_ix (ix_ltK (K := K) rfl) (pe_fld (pv 0) rfl) (pv 4) (fun _ _ => rfl)) (pv 8)) (pe_ix (ix_ltK (K := K) rfl) (pe_fld (pv 0) rfl) (pv 4) (fun _ _ => rfl))) (pg_sub (pe_fld (pv 0) rfl) (pv 4) set_list))) pss_nil))) (pss_cons (ps_fld (pv 0) (pe_call G_behind (hr.mono (by decide)) (by rfl) m_behind k_behind b_behind .nil pass0 (pa_cons (pe_fld (pv 0) rfl) (pa_cons (pe_fld (pv 0) rfl) (pa_cons (pv 1) pa_nil)))) rfl) (pss_one (ps_ret (pe_tup (pa_cons (pe_callTy (call_tupleK (K := K) rfl) (by rfl) T.z_tuple (by decide +kernel) (pa_cons (pv 2) pa_nil)) (pa_cons (pe_callTy (call_tupleK (K := K) rfl) (by rfl) T.z_tuple (by decide +kernel) (pa_cons (pv 3) pa_nil)) pa_nil)))))))))), ?_⟩
  tm_at "S"
  refine ⟨f, s, box, n, m, Pi, ss, pa, ad, rfl, hF, hss, by omega, fun H1 e1 => ⟨fun hcan => ?_, fun hcan k => ?_⟩⟩
  · tm_at "s"
    refine ⟨by tm_at "sz", fun ea nea => ?_⟩
    tm_at "s"
    refine ⟨by tm_at "sz", fun ga nga => ?_⟩
    have hcan' : ∀ k, k < m → (Pi k).other = box → (Pi k).eat ≤ ss k := fun k hk e => by
      unfold canM at hcan
      have := List.all_eq_true.mp hcan k (List.mem_range.mpr hk)
      rw [decide_eq_true e, Bool.true_and] at this
      simpa using this
    have e2 := same_new (o := .lst []) nea
    have e3 := Same.new (o := .lst []) e2 nga
    have nga1 : H1 ga = none := Same.free e2 nga
    have dge : ga ≠ ea := (ne_of_none upd_same nga).symm
    have hea : upd (upd H1 ea (.lst [])) ga (.lst []) ea = some (.lst []) := keep_new nga upd_same
    have hga : upd (upd H1 ea (.lst [])) ga (.lst []) ga = some (.lst []) := upd_same
    generalize upd (upd H1 ea (.lst [])) ga (.lst []) = H2 at e3 hea hga ⊢
    clear e2 nga
    have hx1 := e1 _ _ hx
    have hra1 := e1 _ _ hra
    have hss1 := e1 _ _ hss
    have hhs1 := e1 _ _ hhs
    have F1 := hF.ts (Same.ts e1)
    have hx2 := e3 _ _ hx1
    have F2 := F1.ts (Same.ts e3)
    tm_at "S"
    refine ⟨_, _, rfl, SqT.of F2.all, ?_⟩
    refine for_enumT (K := K) (a := pa) (xs := tab m fun k => .ref (ad k)) (fun i σ H3 => ∃ (x4 x5 x6 x7 x8 x9 : Option V) (xs1 xs2 : List V), σ = [some (.ref x), some (.int box), some (.ref ea), some (.ref ga), x4, x5, x6, x7, x8, x9] ∧ Same H1 H3 ∧ H3 ea = some (.lst xs1) ∧ Ins (PairIs H3) xs1 (fl i (fun k => decide ((Pi k).other = box)) fun k => (k, e k % rm k)) ∧ H3 ga = some (.lst xs2) ∧ Ins (PairIs H3) xs2 (fl i (fun k => decide ((Pi k).one = box)) fun k => (k, l k % rm k)) ∧ ∀ k, k < i → (Pi k).one = box → ss k + (Pi k).give ≤ rm k)
      ⟨none, none, none, none, none, none, [], [], rfl, e3, hea, Ins.nil, hga, Ins.nil, fun k hk => absurd hk (Nat.not_lt_zero k)⟩ ?_ ?_ ?_
    · rintro i σ H3 hi ⟨_, _, _, _, _, _, _, _, rfl, e, _⟩
      exact SqT.of (e _ _ F1.all)
    · clear e3 hea hga hx2 F2 H2
      rintro i z σ H3 t hz ⟨x4, x5, x6, x7, x8, x9, xs1, xs2, rfl, e3, hea, hI1, hga, hI2, hnf⟩ nt
      obtain ⟨hi, rfl⟩ := tab_some hz
      have f4 := same_new (o := .tup [.int (i : Nat), .ref (ad i)]) nt
      have e4 := Same.new (o := .tup [.int (i : Nat), .ref (ad i)]) e3 nt
      have ht : upd H3 t (.tup [.int (i : Nat), .ref (ad i)]) t = some (.tup [.int (i : Nat), .ref (ad i)]) := upd_same
      have hI1' := pairs_ts hI1 (Same.ts f4)
      have hI2' := pairs_ts hI2 (Same.ts f4)
      have hea4 := f4 _ _ hea
      have hga4 := f4 _ _ hga
      generalize upd H3 t (.tup [.int (i : Nat), .ref (ad i)]) = H4 at f4 e4 ht hI1' hI2' hea4 hga4 ⊢
      clear hI1 hI2 hea hga nt hz
      have F4 := F1.ts (Same.ts e4)
      have hx4 := e4 _ _ hx1
      have hra4 := e4 _ _ hra1
      have hss4 := e4 _ _ hss1
      have hhs4 := e4 _ _ hhs1
      have hP := F4.pipe i hi
      unfold Pipe.vs at hP
      have hbi := hb i hi
      have g1 := (hO.pipe i hi).giv0
      have g2 := (hO.pipe i hi).eat0
      tm_at "s"
      -- full?
      refine ⟨fun σ H5 => σ = [some (.ref x), some (.int box), some (.ref ea), some (.ref ga), some (.int i), some (.int (Pi i).one), some (.int (Pi i).other), some (.int (Pi i).give), some (.int (Pi i).eat), some (.int (Pi i).start)] ∧ H5 = H4 ∧ ((Pi i).one = box → ss i + (Pi i).give ≤ rm i), ?_, ?_⟩
      · tm_at "s"
        refine ite_eqi (fun c1 => ?_) (fun c1 => ?_)
        · tm_at "S"
          refine ite_dec (fun c2 => ?_) (fun c2 => ?_)
          · have c2' : rm i < ss i + (Pi i).give := c2
            tm_at "s"
            refine qn ?_ H4 (Same.trans e1 e4)
            have : fullM m Pi ss rm box = true := by
              unfold fullM
              rw [List.any_eq_true]
              exact ⟨i, List.mem_range.mpr hi, by rw [decide_eq_true c1, decide_eq_true c2']; rfl⟩
            rw [this]
            rfl
          · exact ⟨rfl, rfl, fun _ => Int.not_lt.mp c2⟩
        · exact ⟨rfl, rfl, fun z => absurd z c1⟩
      rintro σ H5 ⟨rfl, rfl, hroom⟩
      have hl1 := hI1'.len
      have hl2 := hI2'.len
      have hfl1 := fl_len (m := i) (pr := fun k => decide ((Pi k).other = box)) (g := fun k => (k, e k % rm k))
      have hfl2 := fl_len (m := i) (pr := fun k => decide ((Pi k).one = box)) (g := fun k => (k, l k % rm k))
      tm_at "s"
      -- laid
      refine ⟨fun σ H6 => σ = [some (.ref x), some (.int box), some (.ref ea), some (.ref ga), some (.int i), some (.int (Pi i).one), some (.int (Pi i).other), some (.int (Pi i).give), some (.int (Pi i).eat), some (.int (Pi i).start)] ∧ Same H1 H6 ∧ H6 ea = some (.lst xs1) ∧ Ins (PairIs H6) xs1 (fl i (fun k => decide ((Pi k).other = box)) fun k => (k, e k % rm k)) ∧ ∃ ys, H6 ga = some (.lst ys) ∧ Ins (PairIs H6) ys (fl (i + 1) (fun k => decide ((Pi k).one = box)) fun k => (k, l k % rm k)), ?_, ?_⟩
      · tm_at "s"
        refine ite_eqi (fun c1 => ?_) (fun c1 => ?_)
        · have hr1 := hroom c1
          tm_at "S"
          refine ⟨by omega, ?_⟩
          tm_at "s"
          refine ⟨by tm_at "sz", fun p np => ?_⟩
          have ev : (e i % rm i + ss i) % rm i = l i % rm i := by
            rw [Int.emod_add_emod, hbi.2.2]
          refine heap_eq (congrArg (fun z => upd H5 p (.tup [.int (i : Int), .int z])) ev) ?_
          have ep := same_new (o := .tup [.int (i : Int), .int (l i % rm i)]) np
          have hp : upd H5 p (.tup [.int (i : Int), .int (l i % rm i)]) p = some (.tup [.int (i : Int), .int (l i % rm i)]) := upd_same
          have hga5 := ep _ _ hga4
          have hea5 := ep _ _ hea4
          have hI1'' := pairs_ts hI1' (Same.ts ep)
          have hI2'' := pairs_ts hI2' (Same.ts ep)
          have e5 := Same.trans e4 ep
          generalize upd H5 p (.tup [.int (i : Int), .int (l i % rm i)]) = H6 at ep hp hga5 hea5 hI1'' hI2'' e5 ⊢
          refine ⟨ga, _, _, rfl, rfl, hga5, small_lt (by omega), rfl, Same.mut e5 nga1, keep_ne dge.symm hea5, ?_, _, upd_same, ?_⟩
          · exact pairs_ts hI1'' (fun b ys h => keep_ne (ne_of h hga5 (by intro z; cases z)) h)
          · rw [fl_yes (by exact decide_eq_true c1)]
            refine Ins.snoc (pairs_ts hI2'' (fun b ys h => keep_ne (ne_of h hga5 (by intro z; cases z)) h)) ?_
            exact keep_ne (ne_of hp hga5 (by intro z; cases z)) hp
        · refine ⟨rfl, e4, hea4, hI1', _, hga4, ?_⟩
          rw [fl_no (by exact decide_eq_false c1)]
          exact hI2'
      clear hI1' hI2' hea4 hga4 hl2 hhs4 hss4 hra4 hx4 F4 hP ht f4 e4
      rintro σ H6 ⟨rfl, e6, hea6, hI1, ys, hga6, hI2⟩
      have hx6 := e6 _ _ hx1
      have hhs6 := e6 _ _ hhs1
      have hnf' : ∀ k, k < i + 1 → (Pi k).one = box → ss k + (Pi k).give ≤ rm k := fun k hk h => by
        by_cases ek : k = i
        · subst ek
          exact hroom h
        · exact hnf k (by omega) h
      tm_at "s"
      refine ite_eqi (fun c1 => ?_) (fun c1 => ?_)
      · tm_at "S"
        refine ⟨by tm_at "sz", fun p np => ?_⟩
        have ep := same_new (o := .tup [.int (i : Int), .int (e i % rm i)]) np
        have hp : upd H6 p (.tup [.int (i : Int), .int (e i % rm i)]) p = some (.tup [.int (i : Int), .int (e i % rm i)]) := upd_same
        have hga7 := ep _ _ hga6
        have hea7 := ep _ _ hea6
        have hI1' := pairs_ts hI1 (Same.ts ep)
        have hI2' := pairs_ts hI2 (Same.ts ep)
        refine ⟨ea, _, _, rfl, rfl, hea7, small_lt (by omega), _, _, _, _, _, _, _, ys, rfl, Same.mut (Same.trans e6 ep) nea, upd_same, ?_, keep_ne dge hga7, ?_, hnf'⟩
        · rw [fl_yes (by exact decide_eq_true c1)]
          refine Ins.snoc (pairs_ts hI1' (fun b ys h => keep_ne (ne_of h hea7 (by intro z; cases z)) h)) ?_
          exact keep_ne (ne_of hp hea7 (by intro z; cases z)) hp
        · exact pairs_ts hI2' (fun b ys h => keep_ne (ne_of h hea7 (by intro z; cases z)) h)
      · refine ⟨_, _, _, _, _, _, xs1, ys, rfl, e6, hea6, ?_, hga6, hI2, hnf'⟩
        rw [fl_no (by exact decide_eq_false c1)]
        exact hI1
    · rintro σ H3 ⟨x4, x5, x6, x7, x8, x9, xs1, xs2, rfl, e3, hea, hI1, hga, hI2, hnf⟩
      rw [tab_len] at hI1 hI2 hnf
      have hfull : fullM m Pi ss rm box = false := by
        unfold fullM
        rw [List.any_eq_false]
        intro k hk
        by_cases c : (Pi k).one = box
        · have := hnf k (List.mem_range.mp hk) c
          rw [decide_eq_true c, decide_eq_false (by omega)]
          decide
        · rw [decide_eq_false c]
          exact Bool.false_ne_true
      have hgo : (!fullM m Pi ss rm box && canM m Pi ss box) = true := by
        rw [hfull, hcan]
        rfl
      have fin := qy hgo
      have hx3 := e3 _ _ hx1
      have hhs3 := e3 _ _ hhs1
      have F3 := F1.ts (Same.ts e3)
      have dhx : h ≠ x := ne_of hhs hx (by intro z; cases z)
      tm_at "S"
      refine ⟨_, _, rfl, SqT.of F3.all, ?_⟩
      refine for_enumT (K := K) (a := pa) (xs := tab m fun k => .ref (ad k)) (fun i σ H4 => ∃ (x4 x5 x6 x7 x8 x9 : Option V), σ = [some (.ref x), some (.int box), some (.ref ea), some (.ref ga), x4, x5, x6, x7, x8, x9] ∧ Kp h H3 H4 ∧ H4 h = some (.lst (itab m fun k => if k < i then moreE Pi e box k % rm k else e k % rm k)))
        ⟨_, _, _, _, _, _, rfl, Kp.refl, ?_⟩ ?_ ?_ ?_
      · rw [hhs3]
        exact congrArg (fun z => some (HO.lst z)) (itab_congr fun j hj => (if_neg (Nat.not_lt_zero j)).symm)
      · rintro i σ H4 hi ⟨_, _, _, _, _, _, rfl, k4, _⟩
        exact SqT.of (k4.ts hhs3 _ _ F3.all)
      · rintro i z σ H4 t hz ⟨x4, x5, x6, x7, x8, x9, rfl, k4, hh4⟩ nt
        obtain ⟨hi, rfl⟩ := tab_some hz
        have f5 := same_new (o := .tup [.int (i : Nat), .ref (ad i)]) nt
        have ht : upd H4 t (.tup [.int (i : Nat), .ref (ad i)]) t = some (.tup [.int (i : Nat), .ref (ad i)]) := upd_same
        have k5 := Kp.same k4 f5
        have hh5 := f5 _ _ hh4
        generalize upd H4 t (.tup [.int (i : Nat), .ref (ad i)]) = H5 at f5 ht k5 hh5 ⊢
        clear hz nt
        have F5 := F3.ts (k5.ts hhs3)
        have hP := F5.pipe i hi
        unfold Pipe.vs at hP
        have hx5 := k5 _ _ dhx.symm hx3
        have hra5 := k5.ts hhs3 _ _ (e3 _ _ hra1)
        have hbi := hb i hi
        have base0 : (if i < i then moreE Pi e box i % rm i else e i % rm i) = e i % rm i := if_neg (Nat.lt_irrefl i)
        tm_at "s"
        refine ite_eqi (fun c1 => ?_) (fun c1 => ?_)
        · have hc := hcan' i hi c1
          have g2 := (hO.pipe i hi).eat0
          tm_at "S"
          refine ⟨by omega, ?_⟩
          tm_at "S"
          tm_at "set"
          refine ⟨_, _, _, _, _, _, rfl, Kp.put k5, ?_⟩
          rw [upd_same, itab_set]
          refine congrArg (fun z => some (HO.lst z)) (itab_congr fun j hj => ?_)
          by_cases ej : j = i
          · subst ej
            rw [if_pos rfl, if_pos (Nat.lt_succ_self j)]
            show ((if j < j then moreE Pi e box j % rm j else e j % rm j) + (Pi j).eat) % rm j = moreE Pi e box j % rm j
            rw [base0, Int.emod_add_emod]
            unfold moreE
            rw [if_pos c1]
          · rw [if_neg ej]
            by_cases e2 : j < i
            · rw [if_pos e2, if_pos (by omega)]
            · rw [if_neg e2, if_neg (by omega)]
        · refine ⟨_, _, _, _, _, _, rfl, k5, ?_⟩
          rw [hh5]
          refine congrArg (fun z => some (HO.lst z)) (itab_congr fun j hj => ?_)
          by_cases ej : j = i
          · subst ej
            rw [base0, if_pos (Nat.lt_succ_self j)]
            unfold moreE
            rw [if_neg c1, Int.add_zero]
          · by_cases e2 : j < i
            · rw [if_pos e2, if_pos (by omega)]
            · rw [if_neg e2, if_neg (by omega)]
      · rintro σ H4 ⟨x4, x5, x6, x7, x8, x9, rfl, k4, hh4⟩
        rw [tab_len] at hh4
        have hx4 := k4 _ _ dhx.symm hx3
        have T4 := k4.ts hhs3
        have F4 := F3.ts T4
        have hss4 := T4 _ _ (e3 _ _ hss1)
        have hea4 := k4 _ _ (ne_of_none hhs1 nea).symm hea
        have hga4 := k4 _ _ (ne_of_none hhs1 nga1).symm hga
        tm_at "S"
        refine ⟨f, s, box, n, m, Pi, ss, pa, ad, rfl, F4, hss4, by omega, fun s' H5 e5 hs5 => ?_⟩
        have hx5 := e5 _ _ hx4
        refine ⟨_, rfl, x, C, dx, _, rfl, hx5, tc, tS, (show 4 < 1000 by decide), ?_⟩
        rw [cf_put]
        have T6 : Ts H5 (upd H5 x (.ins C dx (cf f r s' h))) := fun b ys h => keep_ne (ne_of h hx5 (by intro z; cases z)) h
        have hea6 : upd H5 x (.ins C dx (cf f r s' h)) ea = some (.lst xs1) := keep_ne (ne_of (e5 _ _ hea4) hx5 (by intro z; cases z)) (e5 _ _ hea4)
        have hga6 : upd H5 x (.ins C dx (cf f r s' h)) ga = some (.lst xs2) := keep_ne (ne_of (e5 _ _ hga4) hx5 (by intro z; cases z)) (e5 _ _ hga4)
        have hh6 : upd H5 x (.ins C dx (cf f r s' h)) h = some (.lst (itab m fun k => moreE Pi e box k % rm k)) := by
          refine keep_ne dhx ?_
          rw [e5 _ _ hh4]
          exact congrArg (fun z => some (HO.lst z)) (itab_congr fun j hj => if_pos hj)
        have hx6 : upd H5 x (.ins C dx (cf f r s' h)) x = some (.ins C dx (cf f r s' h)) := upd_same
        have hs6 := T6 _ _ hs5
        have k6 : Kp2 x h H (upd H5 x (.ins C dx (cf f r s' h))) := fun b o nx nh e => keep_ne nx (e5 _ _ (k4 _ _ nh (e3 _ _ (e1 _ _ e))))
        have T46 := Ts.trans (Same.ts e5) T6
        have hI1' := pairs_ts hI1 (Ts.trans T4 T46)
        have hI2' := pairs_ts hI2 (Ts.trans T4 T46)
        generalize upd H5 x (.ins C dx (cf f r s' h)) = H6 at hea6 hga6 hh6 hx6 hs6 k6 hI1' hI2' ⊢
        tm_at "s"
        refine ⟨_, _, rfl, .inl ⟨SqL.of hea6, fun g ng => ?_⟩⟩
        have e7 := same_new (o := .tup xs1) ng
        have hG : PairsAt (upd H6 g (.tup xs1)) g (getsM m Pi e rm box) := pairs_at (pairs_ts hI1' (Same.ts e7)) upd_same
        have hga7 := e7 _ _ hga6
        generalize upd H6 g (.tup xs1) = H7 at e7 hG hga7 ⊢
        tm_at "s"
        refine ⟨_, _, rfl, .inl ⟨SqL.of hga7, fun y ny => ?_⟩⟩
        have e8 := same_new (o := .tup xs2) ny
        have hY : PairsAt (upd H7 y (.tup xs2)) y (laysM m Pi l rm box) := pairs_at (pairs_ts hI2' (Same.ts (Same.trans e7 e8))) upd_same
        generalize upd H7 y (.tup xs2) = H8 at e8 hY ⊢
        refine ⟨by tm_at "sz", fun p np => ?_⟩
        have e9 := same_new (o := .tup [.ref g, .ref y]) np
        have e69 := Same.trans e7 (Same.trans e8 e9)
        exact fin p g y s' _ (fun b o nx nh e => e69 _ _ (k6 b o nx nh e)) upd_same (hG.ts (Same.ts (Same.trans e8 e9))) (hY.ts (Same.ts e9)) (e69 _ _ hx6) (e69 _ _ hs6) (e69 _ _ hh6)
  · tm_at "s"
    exact qn (by rw [hcan, Bool.and_false]) H1 e1
end
end Rf
namespace PySem
namespace BwX
open PySem.W PySem.Calls PyProof.Rows PySem.HandSPX
/-! ### the text of BadWord's __init__ -/
def iA (p1 p2 : Pos) : Arguments := { posonlyargs := [], args := [{ arg := "self", annotation := none, pos := p1 }, { arg := "index", annotation := none, pos := p2 }], vararg := none, kwonlyargs := [], kw_defaults := [], kwarg := none, defaults := [] }
def iB (r1 r2 r3 r4 r5 r6 q1 q2 q3 q4 : Pos) : List Stmt := [.Expr (.Call (.Attribute (.Call (.Name "super" r1) [] [] r2) "__init__" r3) [.Name "index" r4] [] r5) r6, .Assign [.Attribute (.Name "self" q1) "index" q2] (.Name "index" q3) q4]
abbrev sI : Stmt := L2.inClass (Rf.topS 3) 0
theorem sI_args : ∃ p1 p2, L2.defArgs sI = iA p1 p2 := ⟨_, _, rfl⟩
theorem sI_body : L2.defBody sI = iB ⟨12, 8, 12, 13⟩ ⟨12, 8, 12, 15⟩ ⟨12, 8, 12, 24⟩ ⟨12, 25, 12, 30⟩ ⟨12, 8, 12, 31⟩ ⟨12, 8, 12, 31⟩ ⟨13, 8, 13, 12⟩ ⟨13, 8, 13, 18⟩ ⟨13, 21, 13, 26⟩ ⟨13, 8, 13, 26⟩ := rfl
def iS : Scope := { kind := .function, names := [(PySem.Str.ofString "self", .local), (PySem.Str.ofString "index", .local), (PySem.Str.ofString "__class__", .free), (PySem.Str.ofString "super", .globalImplicit)], isGenerator := false, isCoroutine := false, more := [] }
theorem sI_scope : L2.defScope sI = iS := rfl
abbrev veB : List Value := [.type "ValueError", .type "Exception", .type "BaseException", .type "object"]
/-- what the written part says of BadWord, at C, and of its __init__, at fI -/
structure BwTxt (P : Program) (K : Frag) (mg : Str → Option Value) (C fI : Addr) : Prop where
  gC : mg "BadWord" = some (.ref C)
  cls : ∃ nm q N bs bm sn sub ab col dd k0 k1 k2 k3 k5, K.lookup C = some (excClassObj nm q C N bs bm true sn sub ab col dd k0 k1 k2 k3 k5 "ValueError.__new__") ∧ refsVE bm = true ∧ excTail veB bm = true
  sa : findIn K (.ref C) "__setattr__" = some (some (.builtin "object.__setattr__"))
  ga : findIn K (.ref C) "__getattribute__" = some (some (.builtin "BaseException.__getattribute__"))
  gg : findIn K (.ref C) "__getattr__" = some none
  noN : findIn K (.ref C) "index" = some none
  iC : findIn K (.ref C) "__init__" = some (some (.ref fI))
  tC : typeIn K (.ref fI) = some (.type "function")
  kC : keepIn K (.ref C) = true
  exC : subIn K (.ref C) (.type "BaseException") = some true
  veC : subIn K (.ref C) (.type "ValueError") = some true
  tyC : typeIn K (.ref C) = some (.type "type")
  hdC : hasDictIn K C = true
  own : mroIn K C (.ref C) = some true
  sup : ks_superIn K C C "__init__" = some (some (.builtin "ValueError.__init__"))
  opq : nsIn K cStatics "thirdparty.any" = some none
  zS : mg "super" = none
  top : (P.main.scope.names.lookup ("super" : Str)).isSome = false
  fn : ∃ (oc : Value) (od : Option Addr) (doc pm : Value) (an : Option Addr) (cda cc : Addr) (ct : Value) (osl : Array (Option Value)) (ccl : Value) (cdd : Option Addr) (vs : Array Value) (ccs : Array (Option Value)) (file : Str) (tf : Tok) (cl : Value) (cld : Option Addr) (csl : Array (Option Value)),
    K.lookup fI = some ⟨oc, od, .func (ksFn "__init__" "BadWord.__init__" (L2.defArgs sI) (L2.defBody sI) (L2.defScope sI) .none .none doc pm an (.ref cda) ct cc), osl⟩ ∧ codeIn K (.ref cda) "BadWord.__init__" = true ∧
    K.lookup cda = some ⟨ccl, cdd, .fields vs, ccs⟩ ∧ vs[2]? = some (.str file tf) ∧ ((P.main.file : Str) == file) = true ∧ K.lookup cc = some ⟨cl, cld, .cell (some (.ref C)), csl⟩
theorem one_size (v : Value) : [v].length ≤ sizeLine := by
  rw [sizeLine_eq]
  exact (by decide : 1 ≤ 16777216)
theorem ldC {M : Model} {s : Shared} {name : Str} {scope : Scope} {L a cc : Addr} {cd : Value} {m : Str → Option Value} {x : Str} {pos : Pos} {v : Value} {Q : Value → Shared → Prop} {A : Around} {E : Value → Shared → Prop} (hn : s.heap.Ns L m) (hv : m x = some v) (h : Q v s)
    (hk : scope.kind = .function := by rfl) (hl : (ksEnv name scope L a cd cc).kindOf x = some .local := by rfl) (hd : (x == ("__debug__" : Str)) = false := by decide) :
    wpAny M A (eval (.Name x pos) (ksEnv name scope L a cd cc)) Q E s := wpAny_Name (wpAny_loadName_local hk hl hn hv h) hd
/-- what __init__ leaves of a fresh exception at x -/
structure InitEnd (h h' : Heap) (x C dx : Addr) (v : Value) : Prop where
  keep : ∀ b o, h.get? b = some o → h'.get? b = some o
  obj : ∃ t1, h'.get? x = some { cls := .ref C, dict := some dx, data := .fields #[.ref t1, .none, .none, .none, .bool false, .none] }
  dbig : h.objs.size ≤ dx
  dne : dx ≠ x
  ns : h'.Ns1 dx (fun y => if y = "index" then some v else none)
section
variable {prog : Program} {w : World} {A : Around} {E : Value → Shared → Prop} {R : Result → Shared → Prop} {s : Shared} {K : Frag} {mg mb : Str → Option Value} {C fI : Addr} {h₀ : Heap}
theorem bw_init (T : BwTxt prog K mg C fI) {x t0 : Addr} {v : Value} (X₀ : K.In h₀) (G : h₀.Ns mainGlobals mg) (Bn : h₀.Ns builtinsNs mb) (hmb : mb "super" = some (.type "super")) (kp : ∀ b o, h₀.get? b = some o → s.heap.get? b = some o) (hsz : h₀.objs.size ≤ s.heap.objs.size) (hx0 : h₀.get? x = none)
    (hlim : s.heap.NoLimit) (hx : s.heap.get? x = some (excO C t0)) (hroom : A.depth < recursionLimit)
    (hq : ∀ h' tk dx, InitEnd h₀ h' x C dx v → R (.ok (.ret .none)) { s with heap := h', toks := tk }) :
    codeAny (model prog w) A (.call (.ref fI) ⟨[.ref x, v], []⟩) R s := by
  obtain ⟨oc, od, doc, pm, an, cda, cc, ct, osl, ccl, cdd, vs, ccs, file, tf, cl, cld, csl, ho, hcd, hco, hvs, hfile, hcell⟩ := T.fn
  obtain ⟨nm, q, N, bs, bm, sn, sub, ab, col, dd, k0, k1, k2, k3, k5, hC, hbm, hbt⟩ := T.cls
  obtain ⟨p1, p2, eA⟩ := sI_args
  have eB := sI_body
  rw [eA, eB, sI_scope] at ho
  have hcl : clsIn K C = some { name := nm, bases := bs, mro := .ref C :: bm, ns := N, qualname := q, hasDict := true, slotNames := sn, subclasses := sub, abstract := ab, collection := col, hasDel := false } := by unfold clsIn; rw [hC] <;> rfl
  have X : K.In s.heap := X₀.keeps kp
  refine ks_codeAny_call_defAt (binds := [("self", .ref x), ("index", v)]) hroom (X _ _ ho) rfl hlim (codeRec_of X hcd) rfl (BindsTo.of_eq (by first | rfl | with_unfolding_all rfl)) (show ∀ x ∈ iS.names, x.2 ≠ .cell by decide) (locs rfl) (fun h₁ hns k => ?_) rfl rfl rfl
  show wpAt (model prog w) _ (.func _ (ksEnv "BadWord.__init__" iS s.heap.objs.size fI (.ref cda) cc)) (execs _ (ksEnv "BadWord.__init__" iS s.heap.objs.size fI (.ref cda) cc)) _ _ _
  have hxL : s.heap.objs.size ≠ x := Nat.ne_of_gt (Heap.lt_size hx)
  have hx₁ := k _ _ hx
  have Fh : Fr h₀ s.heap.objs.size h₁ (fun y => ([("self", Value.ref x), ("index", v)] : List (Str × Value)).reverse.lookup y) := ⟨hns, fun b o e => k b o (kp b o e), hsz⟩
  have N : News h₀ s.heap.objs.size h₁ [(x, excO C t0)] := fun p hp => by
    have e : p = (x, excO C t0) := by simpa using hp
    subst e
    exact ⟨hx₁, hxL.symm, hx0⟩
  have X₁ : K.In h₁ := X.keeps k
  refine ks_wpAt_execs_cons ?_
  refine ks_wpAt_Expr_any ?_
  refine ks_wpAt_MethodCall ?_
  have I₁ : InstAt h₁ x (excO C t0) C none := ⟨hx₁, rfl, rfl, trivial⟩
  refine ks_wpAt_super_base (env := ksEnv "BadWord.__init__" iS s.heap.objs.size fI (.ref cda) cc) (by rfl) (by rfl) (by decide) rfl (X₁ _ _ ho) rfl rfl rfl (X₁ _ _ hco) rfl hvs hfile T.top ?_
  refine ks_loadName_global rfl rfl (loadGlobal_builtin (env := ksEnv "BadWord.__init__" iS s.heap.objs.size fI (.ref cda) cc) (G.keeps Fh.keep) T.zS (Bn.keeps Fh.keep) hmb ⟨rfl, ?_⟩)
  refine wpAny_loadName_free rfl rfl rfl ⟨_, X₁ _ _ hcell, rfl⟩ ?_
  refine wpAny_loadName_local (v := .ref x) rfl rfl hns rfl ?_
  refine ks_wpAny_isType_cls (X₁ _ _ hC) rfl ⟨rfl, ?_⟩
  refine ks_wpAny_call_super (X₁ _ _ hC) rfl hx₁ rfl (fun c e => by cases e) (looks_mroIn X₁ T.own) (fun h₂ e₂ k₂ => ?_)
  obtain ⟨F₂, N₂, l₂⟩ := ks_newsPush (s := ⟨h₁, s.gens, s.drawn, s.toks + 2, s.os⟩) Fh N rfl e₂ k₂
  have I₂ : InstAt h₂ x (excO C t0) C none := ⟨k₂ _ _ hx₁, rfl, rfl, trivial⟩
  refine kxs_method kxs_ValueError F₂ X₀ N₂ (so := h₁.objs.size) (D := C) (x := x) (C := C) (by simp) I₂ T.opq T.sup T.veC (by decide) (fun u h₃ F₃ N₃ l₃ => ?_)
  -- the argument
  have hu : (u, kxs_mw "ValueError.__init__" x) ∈ ((u, kxs_mw "ValueError.__init__" x) :: (h₁.objs.size, ks_superObj C x C) :: [(x, excO C t0)]) := by simp
  refine kxs_callWith1 (i := "ValueError.__init__") (x := x) N₃ hu ?_ (by rfl) (by rfl)
  refine spliced_cons (ldC (v := v) F₃.ns rfl (spliced_nil ⟨kxs_at N₃ hu, ?_⟩))
  have nu : u ≠ x := by
    have := l₃ (x, excO C t0) (by simp)
    exact Nat.ne_of_gt this
  have ns1 : h₁.objs.size ≠ x := Nat.ne_of_gt (Heap.lt_size hx₁)
  have hini : excInitIn K C veB "ValueError.__new__" = true := by
    unfold excInitIn
    rw [hC]
    show (C == C && ("ValueError.__new__" : String) == "ValueError.__new__" && !false && excTail veB bm) = true
    rw [hbt]
    simp
  refine kxs_call F₃ X₀ N₃ F.excBase_ValueError hini hu (t := t0) (dv := none) (c2 := .none) (.tail nu (.tail ns1 (.head (fun p hp => by cases hp)))) (one_size v) (fun t1 h₄ F₄ N₄ l₄ => ?_)
  have hx₄ : h₄.get? x = some (excO C t1) := (N₄ (x, excO C t1) (by simp)).1
  have X₄ : K.In h₄ := X₀.keeps F₄.keep
  -- self.index = index
  show wpAt (model prog w) _ (.func _ (ksEnv "BadWord.__init__" iS s.heap.objs.size fI (.ref cda) cc)) (execs _ (ksEnv "BadWord.__init__" iS s.heap.objs.size fI (.ref cda) cc)) _ _ _
  refine wpAt_of_wpAny (wpAny_execs_cons (plainObj_wpAny_Assign_Attribute ?_))
  refine ldC (v := v) F₄.ns rfl (ldC (v := .ref x) F₄.ns rfl ?_)
  refine set_plain X₄ (ox := excO C t1) (od := none) ⟨hx₄, rfl, rfl, trivial⟩ T.sa ?_
  refine exc_osa X₄ hx₄ hcl (show refsVE (.ref C :: bm) = true from hbm) rfl T.noN (fun h₅ tk₅ dx k₅ dn dne hx₅ hn₅ => ?_)
  show wpAny _ _ (execs _ _) _ _ _
  have z : s.heap.objs.size < h₄.objs.size := F₄.ns.lt
  refine wpAny_execs_nil (hq h₅ tk₅ dx ⟨fun b o e => k₅ b o (fun y => ?_) (F₄.keep b o e), ⟨t1, hx₅⟩, Nat.le_trans hsz (Nat.le_of_lt (Nat.lt_of_lt_of_le z dn)), dne, hn₅⟩)
  rw [y, hx0] at e
  cases e
/-- a made BadWord -/
structure OwnMade (h h' : Heap) (e C d : Addr) (v : Value) : Prop where
  keep : ∀ b o, h.get? b = some o → h'.get? b = some o
  new : h.objs.size ≤ e
  obj : ∃ oe vs, h'.get? e = some oe ∧ oe.cls = .ref C ∧ oe.dict = some d ∧ oe.data = .fields vs ∧ vs[1]? = some .none
  dbig : h.objs.size ≤ d
  dne : d ≠ e
  ns : h'.Ns1 d (fun y => if y = "index" then some v else none)
theorem bw_made (T : BwTxt prog K mg C fI) {v : Value} (X : K.In s.heap) (G : s.heap.Ns mainGlobals mg) (Bn : s.heap.Ns builtinsNs mb) (hmb : mb "super" = some (.type "super")) (hlim : s.heap.NoLimit) (hroom : A.depth + 1 < recursionLimit)
    (hq : ∀ h' tk e d, OwnMade s.heap h' e C d v → R (.ok (.ret (.ref e))) { s with heap := h', toks := tk }) :
    codeAny (model prog w) A (.call (.ref C) ⟨[v], []⟩) R s := by
  obtain ⟨nm, q, N, bs, bm, sn, sub, ab, col, dd, k0, k1, k2, k3, k5, hC, hbm, _⟩ := T.cls
  obtain ⟨hp, g, dr, tk, os⟩ := s
  have k : ∀ b o, hp.get? b = some o → ((hp.push (kdv_tup [v])).push (excO C hp.objs.size)).get? b = some o := fun b o e => Heap.get?_push_of_some _ (Heap.get?_push_of_some _ e)
  have hget : ((hp.push (kdv_tup [v])).push (excO C hp.objs.size)).get? (hp.objs.size + 1) = some (excO C hp.objs.size) := by heap_get
  have hnone : hp.get? (hp.objs.size + 1) = none := by
    cases e : hp.get? (hp.objs.size + 1) with
    | none => rfl
    | some o => exact absurd (Nat.lt_of_succ_lt (Heap.lt_size e)) (Nat.lt_irrefl _)
  refine call_own F.excBase_ValueError (fun X => refsVE_contains X bm hbm) (X _ _ hC) (looks_findIn X T.iC) (fun self => bind_fn X self T.tC) (one_size v) ?_
  refine bw_init (s := ⟨(hp.push (kdv_tup [v])).push (excO C hp.objs.size), g, dr, tk, os⟩) (h₀ := hp) T X G Bn hmb k (by simp only [Heap.size_push]; omega) hnone (hlim.keeps k) hget ?_ fun h' tk' dx ⟨k', ⟨t1, hx⟩, dn, dne, hns⟩ => ?_
  · show A.depth + 1 < recursionLimit
    exact hroom
  · exact ⟨rfl, hq h' tk' (hp.objs.size + 1) dx ⟨k', Nat.le_succ _, ⟨_, _, hx, rfl, rfl, rfl, rfl⟩, dn, dne, hns⟩⟩
end
end BwX
end PySem
namespace L2
open PySem PySem.Spec PyProof.Rows
theorem relO_bw {v : V} {v' : Value} (r : RelV v v') (f : Str) : RelO (List.lookup f [(("index" : Str), v)]) (if f = "index" then some v' else none) := by
  by_cases hw : f = "index"
  · subst hw
    rw [if_pos rfl]
    have q : List.lookup ("index" : Str) [(("index" : Str), v)] = some v := by simp [List.lookup]
    rw [q]
    exact r
  · rw [if_neg hw]
    have qw : (f == ("index" : Str)) = false := by simpa using hw
    have q2 : List.lookup f [(("index" : Str), v)] = none := by simp [List.lookup, qw]
    rw [q2]
    trivial
section
variable {X : Cx} {C fI : Addr}
/-- BadWord(e) -/
def tMkBw (C : Addr) (ta : TA) : St → Hp → XK → Prop := fun σ H Q => ta σ H fun vs H1 => ∃ v, vs = [v] ∧ ∀ d, H1 d = none → Q (.ref C) (some d) (upd H1 d (.xd [(("index" : Str), v)]))
theorem pmk_bw {a : Expr} {ta : TA} {p pos : Pos} {k : Nat} (T : PySem.BwX.BwTxt X.prog X.K X.mg C fI) (hr : Room k X.A) (ha : PA X [a] ta) (hg : Gl X "BadWord" := by rfl)
    (he : starEach (a :: []) X.env = (false, eval a X.env) :: starEach [] X.env := by rfl) (hpl : (backTo pos (starEach [] X.env)).any (·.1) = false := by rfl) :
    PMk X (.Call (.Name "BadWord" p) [a] [] pos) (tMkBw C ta) := by
  intro pins s σ H Q I h
  refine wpAny_Call_Name_kw (ld_glob I hg T.gC ?_)
  refine PySem.W.callWith_K (h₀ := X.base) I.ok.mod.kin T.kC (thn (ha.run pos pins s σ H _ I h) fun us s1 hh => ?_) he hpl
  obtain ⟨vs, H1, I1, r1, v, ev, q1⟩ := hh
  subst ev
  refine ⟨I1.kIn, ?_⟩
  cases r1 with
  | cons rv rn =>
    rename_i v' us'
    cases rn
    show wpAny _ _ (call (.ref C) [v']) _ _ _
    have hlim := I1.nolimit
    obtain ⟨mb, b1, b2⟩ := I1.mod.blt
    have gl := I1.mod.glob.keeps I1.bk
    have bl := b1.keeps I1.bk
    obtain ⟨hp, g, dr, tk, os⟩ := s1
    refine wpAny_call (PySem.BwX.bw_made T I1.kIn gl bl ((b2 "super" (by decide)).trans (by first | rfl | decide +kernel)) hlim (by have := hr.dp; omega) fun h' tk' e d M => ?_)
    show MkP X pins σ Q (.ref e) ⟨h', g, dr, tk', os⟩
    obtain ⟨oe, fv, hoe, hc, hd, hdat, h1⟩ := M.obj
    have hns := M.ns
    obtain ⟨G', g1, g2⟩ := restrict h' fun b => decide (b ≠ e)
    have gk : ∀ b, b ≠ e → G'.get? b = h'.get? b := fun b hb => g1 b (decide_eq_true hb)
    have ge : G'.get? e = none := g2 e (by simp)
    have old : ∀ b o, hp.get? b = some o → G'.get? b = some o := fun b o q => (gk b (Nat.ne_of_lt (Nat.lt_of_lt_of_le (Heap.lt_size q) M.new))).trans (M.keep b o q)
    have ob : ObjOk X.prog X.w (upd H1 d (.xd [(("index" : Str), v)])) G' d (.xd [(("index" : Str), v)]) :=
      ⟨_, hns.at (fun o q => (gk d M.dne).trans q), fun f => relO_bw rv f⟩
    have J : Inv X pins σ (upd H1 d (.xd [(("index" : Str), v)])) ⟨G', g, dr, tk', os⟩ := I1.laid (t' := tk') old M.dbig ob
    refine ⟨e, oe, fv, ⟨G', g, dr, tk', os⟩, _, .ref C, some d, rfl, J, fun b o q => ?_, ge, hoe, ⟨hc, hd⟩, hdat, h1, ?_, rfl, I1.bare, raises_own T.exC T.tyC, q1 d (I1.hok.fresh M.dbig)⟩
    · by_cases hb : b = e
      · have q' : G'.get? b = some o := q
        rw [hb, ge] at q'; cases q'
      · exact (gk b hb).symm.trans q
    · rw [upd_ne (Ne.symm M.dne)]
      exact I1.hok.fresh M.new
/-- raise BadWord(e) -/
def tRaiseBw (C : Addr) (W : WX) (ta : TA) : TS := fun _ σ H => tMkBw C ta σ H fun cls d H' => W cls d σ H'
theorem ps_raiseBw {a : Expr} {ta : TA} {W : WX} {p pos pos2 : Pos} {k : Nat} (hc : X.calm = true) (T : PySem.BwX.BwTxt X.prog X.K X.mg C fI) (hr : Room k X.A) (tk : Takes X W) (ha : PA X [a] ta) (hg : Gl X "BadWord" := by rfl)
    (he : starEach (a :: []) X.env = (false, eval a X.env) :: starEach [] X.env := by rfl) (hpl : (backTo pos (starEach [] X.env)).any (·.1) = false := by rfl) :
    PS X (.Raise (some (.Call (.Name "BadWord" p) [a] [] pos)) none pos2) (tRaiseBw C W ta) := ps_raise hc tk (pmk_bw T hr ha hg he hpl)
end
end L2
namespace Rf
open PySem PySem.Spec L2
local macro_rules | `(tactic| tm_at "hp") => `(tactic| (first | assumption | exact FlowAt.top (by assumption) | exact FlowAt.all (by assumption) | exact FlowAt.pipe (by assumption) _ (by assumption) | exact upd_same | (refine keep_new (by assumption) ?_; tm_at "hp")))
local macro_rules | `(tactic| tm_at "sq") => `(tactic| (first | exact .inl (by assumption) | exact .inr (by assumption) | exact .inr (SqT.of (by tm_at "hp")) | exact .inl (SqL.of (by tm_at "hp"))))
local macro_rules | `(tactic| tm_at "at") => `(tactic| (first | rfl | exact itab_at (by assumption) | exact tab_at (by assumption) | (refine itab_atI ?_ ?_ <;> assumption)))
local macro_rules | `(tactic| tm_at "ix") => `(tactic| (refine' ⟨_, _, _, _, rfl, rfl, ?hs, ?ha, ?_⟩; (case hs => tm_at "sq"); (case ha => tm_at "at")))
local macro_rules | `(tactic| tm_at "len") => `(tactic| (refine' ⟨_, _, rfl, ?hs, ?_⟩; (case hs => tm_at "sq"); (first | rw [itab_len] | rw [tab_len] | rw [List.length_map] | skip)))
local macro_rules | `(tactic| tm_at "rg") => `(tactic| (refine ⟨rg_lo, rg_hi (by omega), ?_⟩))
local macro_rules | `(tactic| tm_at "rgi") => `(tactic| (refine ⟨rgi_lo (by omega), rgi_hi (by omega), ?_⟩))
local macro_rules | `(tactic| tm_at "ut") => `(tactic| (refine' ⟨_, _, rfl, ?hs, ?hl, ?_⟩; (case hs => exact SqT.of (by tm_at "hp")); (case hl => rfl)))
local macro_rules | `(tactic| tm_at "s") => `(tactic| repeat (first | refine ⟨_, rfl, ?_⟩ | refine ⟨_, _, rfl, rfl, ?_⟩ | tm_at "ix" | tm_at "len" | tm_at "ut" | refine ⟨rfl, ?_⟩ | refine ⟨_, _, rfl, ?_⟩ | refine ⟨_, _, _, rfl, ?_⟩ | refine Or.inl ⟨_, rfl, ?_⟩ | refine ⟨Or.inl ⟨rfl, _, SqL.of (by tm_at "hp")⟩, ?_⟩))
local macro_rules | `(tactic| tm_at "tl") => `(tactic| (refine' ⟨_, _, rfl, Or.inl ⟨SqL.of ?hs, ?_⟩⟩; (case hs => tm_at "hp")))
local macro_rules | `(tactic| tm_at "set") => `(tactic| (refine' ⟨_, _, _, _, rfl, rfl, ?hs, ?hj, ?_⟩; (case hs => tm_at "hp"); (case hj => (first | rfl | exact tab_ixN (by assumption)))))
local macro_rules | `(tactic| tm_at "sz") => `(tactic| (first | exact small_ok (Nat.le_of_ble_eq_true rfl) | exact Nat.le_of_ble_eq_true rfl))
local macro_rules | `(tactic| tm_at "acc") => `(tactic| (refine' ⟨_, ?ha, ?hz, ?_⟩; (case ha => tm_at "hp"); (case hz => (first | rw [itab_len] | rw [tab_len] | rw [List.length_map] | skip); exact small_lt (by omega))))
local macro_rules | `(tactic| tm_at "ap") => `(tactic| (refine' ⟨_, _, _, rfl, rfl, ?hs, ?hz, ?_⟩; (case hs => tm_at "hp")))
local macro_rules | `(tactic| tm_at "sm") => `(tactic| (first | assumption | exact Same.refl _ | (refine Same.new ?_ (by assumption); tm_at "sm") | (refine Same.mut ?_ (by assumption); tm_at "sm")))
section
variable {P : Program} {w : World} {K : PySem.W.Frag} {mg : Str → Option Value} {base : Heap}

theorem ok_trace {C fI B fB : Addr} {fdI : FuncData} {fF : Addr} {fdF : FuncData} (D : Df K mg "trace" s_trace p_trace) (T : Tx mg) (TC : ClTxt K C) (mgC : mg "Cells" = some (.ref C)) (MC : Mk K C fI) (G_Cells : FnOk P w K mg base CX0 2 fI fdI p_Cells_init (spCInit C)) (b_Cells : Binds K fdI p_Cells_init [])
    (mF : Meth K C "fire" fF) (G_fire : FnOk P w K mg base CX0 2 fF fdF p_Cells_fire (spFire C)) (b_fire : Binds K fdF p_Cells_fire []) (TB : PySem.BwX.BwTxt P K mg B fB)
    (C_need_all : Ca P w K mg base CX0 12 "need_all" p_need_all spNeedAll) (C_walk : Ca P w K mg base CX0 1 "walk" p_walk spWalk) : Ca P w K mg base (L2.CX P w) 13 "trace" p_trace (spTrace B) := by
  obtain ⟨f_need_all, fd_need_all, G_need_all, m_need_all, k_need_all, b_need_all⟩ := C_need_all
  obtain ⟨f_walk, fd_walk, G_walk, m_walk, k_walk, b_walk⟩ := C_walk
  obtain ⟨f0, fd0, F0, gf0, bf0⟩ := D
  refine ⟨f0, fd0, ?_, gf0, F0.kp, bf0⟩
  refine F0.okX sc_trace (fun vs H Q E h => ?_) (fun cdv A outer s0 H vs Q E hr h => ?_)
  · obtain ⟨f, ca, ra, n, m, Pi, rm, l, pa, ad, cad, rfl, _⟩ := h
    rfl
  obtain ⟨f, ca, ra, n, m, Pi, rm, l, pa, ad, cad, rfl, hF, hO, hC, hl, hz, hra, hrm, q1, q2⟩ := h
  have hm6 := hO.m6
  refine ⟨_, (pss_cons (ps_expr (pe_call G_need_all (hr.mono (by decide)) (by rfl) m_need_all k_need_all b_need_all .nil pass0 (pa_cons (pv 0) (pa_cons (pv 1) (pa_cons (pv 2) pa_nil))))) (pss_cons (ps_par (i := 3) (j := 4) (by rfl) sc_trace.nd rfl rfl (by decide) rfl rfl (pa_cons (pe_make MC G_Cells (hr.mono (by decide)) (by rfl) mgC b_Cells .nil pass0 (pa_cons (pv 0) (pa_cons (pv 2) pa_nil))) (pa_cons (pe_lst pa_nil) pa_nil)) (by rfl)) (pss_cons (ps_for (passes_of rfl) rfl (pi_enumK (K := K) rfl (by rfl) T.z_enumerate (pa_cons (pe_call G_walk (hr.mono (by decide)) (by rfl) m_walk k_walk b_walk .nil pass0 (pa_cons (pv 1) pa_nil)) pa_nil)) (pg_tupK (K := K) rfl (by rfl) (pgs_cons (pg_name (i := 5) sc_trace.nd rfl (.inl rfl)) (pgs_cons (pg_name (i := 6) sc_trace.nd rfl (.inl rfl)) pgs_nil))) (pss_cons (ps_set (i := 7) sc_trace.nd rfl (.inl rfl) (pe_ix (ix_ltK (K := K) rfl) (pe_ix (ix_ltK (K := K) rfl) (pv 1) (pv 6) (fun _ _ => rfl)) pe_int (fun _ _ => rfl))) (pss_cons (ps_set (i := 8) sc_trace.nd rfl (.inl rfl) (pe_ifExp (pt_cmpR op_lt (pv 7) (pe_ix (ix_ltK (K := K) rfl) (pv 0) pe_int (fun _ _ => rfl)) (nomark _)) (pe_meth (pv 3) TC.cl mF G_fire (hr.mono (by decide)) b_fire .nil pass0 (pa_cons (pv 7) pa_nil)) pe_non)) (pss_cons (ps_if (pt_cmpR op_isN (pv 8) pe_non (nomark _)) (pss_one (ps_raiseBw (W := fun cls d _ H => E cls d H) rfl TB (hr.mono (by decide : 1 ≤ 12)) (takes_of rfl rfl rfl rfl) (by exact (pa_cons (pv 5) pa_nil)))) pss_nil) (pss_one (ps_expr (pe_bm PySem.F.plainAttrs_list PySem.F.slot_list_append PySem.F.type_list_append mt_append (pv 4) (pa_cons (pe_op (op_catK (K := K) rfl) (pe_tup (pa_cons (pv 7) pa_nil)) (pv 8)) pa_nil)))))))) (pss_one (ps_ret (pe_callTy (call_tupleK (K := K) rfl) (by rfl) T.z_tuple (by decide +kernel) (pa_cons (pv 4) pa_nil))))))), ?_⟩
  tm_at "s"
  refine ⟨f, ca, ra, n, m, Pi, rm, l, pa, ad, cad, rfl, hF, hO, hC, hl, hz, hra, hrm, fun H1 e1 => ?_⟩
  tm_at "s"
  intro x dx nx ndx nex
  have s1 := Same.new (o := .ins C dx []) (Same.new (o := .own x) e1 ndx) (by rw [upd_ne nex.symm]; exact nx)
  have s1' : Same H1 (upd (upd H1 dx (.own x)) x (.ins C dx [])) := Same.new (same_new ndx) (by rw [upd_ne nex.symm]; exact nx)
  have hx0 : H x = none := Same.free e1 nx
  refine ⟨H1, x, dx, f, ra, n, m, Pi, rm, pa, ad, rfl, s1', nx, upd_same, (hF.ts (Same.ts s1)), s1 _ _ hra, by omega, fun s h H2 e2 hh0 hx2 hs2 hh2 => ⟨rfl, ?_⟩⟩
  have e02 := Same.trans e1 e2
  have hh0' : H h = none := Same.free e1 hh0
  refine ⟨by tm_at "sz", fun fd nfd => ?_⟩
  have e3 := Same.new (o := .lst []) e02 nfd
  have f3 := same_new (o := .lst []) nfd
  have hfd3 : upd H2 fd (.lst []) fd = some (.lst []) := upd_same
  have hx3 := f3 _ _ hx2
  have hs3 := f3 _ _ hs2
  have hh3 := f3 _ _ hh2
  have hfd0 : H fd = none := Same.free e02 nfd
  have dfh : h ≠ fd := ne_of_none hh2 nfd
  generalize upd H2 fd (.lst []) = H3 at e3 f3 hfd3 hx3 hs3 hh3 ⊢
  clear nfd f3 hx2 hs2 hh2 e02 e2 s1 s1'
  tm_at "s"
  refine ⟨ca, l, cad, rfl, hC.ts (Same.ts e3), hl, hz, fun pl is H4 e4 npl hpl hil hcon => ?_⟩
  have e04 := Same.trans e3 e4
  have dph : h ≠ pl := ne_of_none hh3 npl
  have dpf : fd ≠ pl := ne_of_none hfd3 npl
  have hpl0 : H pl = none := Same.free e3 npl
  have hx4 := e4 _ _ hx3
  have hs4 := e4 _ _ hs3
  have hh4 := e4 _ _ hh3
  have hfd4 := e4 _ _ hfd3
  clear hx3 hs3 hh3 hfd3 npl e4 e3
  generalize hTS : cellsM n m Pi rm (fun k => (Pi k).start) (fun _ => 0) (fun k => (Pi k).start) l.unr = TS at q1 q2
  have hul : l.unr.length ≤ 2000 := by
    rw [Lp.unr_len]
    exact hz
  refine ⟨_, _, rfl, SqL.of hpl, ?_⟩
  refine for_enumL (K := K) (a := pl) (xs := is.map fun (i : Nat) => V.int i) (fun i σ H5 => ∃ (x5 x6 x7 x8 : Option V) (s : Addr) (ss e l' : Nat → Int) (xs : List V) (ts : List Trip), σ = [some (.ref f), some (.ref ca), some (.ref ra), some (.ref x), some (.ref fd), x5, x6, x7, x8] ∧ Same H H5 ∧ H5 pl = some (.lst (is.map fun (i : Nat) => V.int i)) ∧ H5 x = some (.ins C dx (cf f ra s h)) ∧ H5 s = some (.tup (itab m ss)) ∧ H5 h = some (.lst (itab m fun k => e k % rm k)) ∧ H5 fd = some (.lst xs) ∧ TripsIn H5 xs ts ∧ ts.length = i ∧
      (∀ k, k < m → 0 ≤ ss k ∧ ss k ≤ rm k ∧ l' k = e k + ss k) ∧ ts ++ cellsM n m Pi rm ss e l' (l.unr.drop i) = TS)
    ⟨none, none, none, none, s, _, fun _ => 0, fun k => (Pi k).start, [], [], rfl, e04, hpl, hx4, hs4, ?_, hfd4, trips_nil, rfl, fun k hk => ⟨(hO.pipe k hk).sta0, (hrm k hk).1, (Int.zero_add _).symm⟩, hTS⟩ ?_ ?_ ?_
  · rw [hh4]
    exact congrArg (fun z => some (HO.lst z)) (itab_congr fun j hj => (Int.zero_emod _).symm)
  · rintro i σ H5 hi ⟨_, _, _, _, _, _, _, _, _, _, rfl, _, hpl, _⟩
    exact SqL.of hpl
  · clear hx4 hs4 hh4 hfd4 hpl e04 s H4 H3 H2
    rintro i v σ H5 t hv ⟨x5, x6, x7, x8, s, ss, e, l', xs, ts, rfl, e5, hpl, hx5, hs5, hh5, hfd5, hts, htl, hb, heq⟩ nt
    rw [List.getElem?_map] at hv
    cases hisi : is[i]? with
    | none =>
      rw [hisi] at hv
      cases hv
    | some at' =>
    rw [hisi] at hv
    obtain rfl : V.int at' = v := Option.some.inj hv
    have hii := (List.getElem?_eq_some_iff.mp hisi).1
    have hiu : i < l.unr.length := by omega
    obtain ⟨box, hbox⟩ : ∃ b, l.unr[i]? = some b := ⟨l.unr[i], List.getElem?_eq_getElem hiu⟩
    have hst := hcon i at' box hisi hbox
    have hat := (List.getElem?_eq_some_iff.mp hst).1
    obtain ⟨_, hbox'⟩ := List.getElem?_eq_some_iff.mp hbox
    rw [List.drop_eq_getElem_cons hiu, hbox', cellsM] at heq
    have f6 := same_new (o := .tup [.int (i : Nat), .int at']) nt
    have e6 := Same.trans e5 f6
    have ht : upd H5 t (.tup [.int (i : Nat), .int at']) t = some (.tup [.int (i : Nat), .int at']) := upd_same
    have hpl6 := f6 _ _ hpl
    have hx6 := f6 _ _ hx5
    have hs6 := f6 _ _ hs5
    have hh6 := f6 _ _ hh5
    have hfd6 := f6 _ _ hfd5
    have hts6 := hts.ts (Same.ts f6)
    generalize upd H5 t (.tup [.int (i : Nat), .int at']) = H6 at f6 e6 ht hpl6 hx6 hs6 hh6 hfd6 hts6 ⊢
    clear hts hfd5 hh5 hs5 hx5 hpl e5 nt hv
    have F6 := hF.ts (Same.ts e6)
    have hC6 := hC.ts (Same.ts e6)
    have hCt := hC6.1
    have hsp : H6 (cad at') = some (.tup [.str "fire", .int box]) := hC6.2 at' _ hst
    have hra6 := e6 _ _ hra
    have stop : goesM n m Pi rm ss box = false → ∀ H7, Same H6 H7 → ∀ d, H7 d = none → E (.ref B) (some d) (upd H7 d (.xd [("index", .int (i : Nat))])) := fun hg H7 e7 d nd => by
      rw [if_neg (by rw [hg]; exact Bool.false_ne_true), List.append_nil] at heq
      subst heq
      refine q2 (by omega) d _ (Same.new (Same.trans e6 e7) nd) ?_
      rw [upd_same, htl]
    tm_at "s"
    refine ⟨_, _, _, _, rfl, rfl, .inr (SqT.of hCt), tab_at hat, ?_⟩
    tm_at "s"
    refine ite_dec (fun c1 => ?_) (fun c1 => ?_)
    · tm_at "s"
      refine ⟨x, dx, _, rfl, hx6, cf_fire, ?_⟩
      tm_at "s"
      refine ⟨x, dx, f, ra, s, h, box, n, m, Pi, rm, ss, e, l', pa, ad, rfl, hx6, F6, hO, hra6, hs6, hh6, hb, fun hgo p g y s' H7 k7 hp hG hY hx7 hs7 hh7 => ?_, fun hgo H7 e7 => ?_⟩
      · have hgo' : goesM n m Pi rm ss box = true := by
          unfold goesM
          rw [hgo, decide_eq_true c1]
          rfl
        rw [if_pos hgo'] at heq
        have T7 : Ts H6 H7 := fun b ys q => k7 b _ (ne_of q hx6 (by intro z; cases z)) (ne_of q hh6 (by intro z; cases z)) q
        have e07 : Same H H7 := fun b o q => k7 b o (ne_of_none q hx0) (ne_of_none q hh0') (e6 b o q)
        have hfd7 := k7 fd _ (ne_of hfd6 hx6 (by intro z; cases z)) dfh.symm hfd6
        have hpl7 := k7 pl _ (ne_of hpl6 hx6 (by intro z; cases z)) dph.symm hpl6
        have hts7 := hts6.ts T7
        tm_at "s"
        refine ⟨by tm_at "sz", fun p1 np1 => ?_⟩
        have e8 := same_new (o := .tup [.int box]) np1
        tm_at "s"
        refine st_cat upd_same (e8 _ _ hp) (by show 1 + 2 ≤ _; omega) fun p2 H8 e9 hp2 => ?_
        have e79 := Same.trans e8 e9
        have hfd8 := e79 _ _ hfd7
        have hxl := hts7.len
        refine ⟨fd, _, _, rfl, rfl, hfd8, small_lt (by omega), ?_⟩
        have hb' : ∀ k, k < m → 0 ≤ nextM Pi ss box k ∧ nextM Pi ss box k ≤ rm k ∧ moreL Pi l' box k = moreE Pi e box k + nextM Pi ss box k := by
          have h1 := (Bool.and_eq_true_iff.mp hgo)
          have hcan' : ∀ k, k < m → (Pi k).other = box → (Pi k).eat ≤ ss k := fun k hk e => by
            have hc := h1.2
            unfold canM at hc
            have := List.all_eq_true.mp hc k (List.mem_range.mpr hk)
            rw [decide_eq_true e, Bool.true_and] at this
            simpa using this
          have hfull' : ∀ k, k < m → (Pi k).one = box → ss k + (Pi k).give ≤ rm k := fun k hk e => by
            have hc : fullM m Pi ss rm box = false := by
              have := h1.1
              simpa using this
            unfold fullM at hc
            have := List.any_eq_false.mp hc k (List.mem_range.mpr hk)
            rw [decide_eq_true e, Bool.true_and] at this
            simpa using this
          intro k hk
          have h2 := hb k hk
          have h3 := hcan' k hk
          have h4 := hfull' k hk
          have h5 := (hO.pipe k hk).eat0
          have h6 := (hO.pipe k hk).giv0
          unfold nextM moreL moreE
          by_cases c1 : (Pi k).other = box
          · have := h3 c1
            by_cases c2 : (Pi k).one = box
            · have := h4 c2
              rw [if_pos c1, if_pos c2]
              omega
            · rw [if_pos c1, if_neg c2]
              omega
          · by_cases c2 : (Pi k).one = box
            · have := h4 c2
              rw [if_neg c1, if_pos c2]
              omega
            · rw [if_neg c1, if_neg c2]
              omega
        have T89 : Ts H8 (upd H8 fd (.lst (xs ++ [.ref p2]))) := fun b ys h => keep_ne (ne_of h hfd8 (by intro z; cases z)) h
        refine ⟨_, _, _, _, s', nextM Pi ss box, moreE Pi e box, moreL Pi l' box, _, ts ++ [⟨box, getsM m Pi e rm box, laysM m Pi l' rm box⟩], rfl, Same.mut (Same.trans e07 e79) hfd0, keep_ne dpf.symm (e79 _ _ hpl7), keep_ne (ne_of (e79 _ _ hx7) hfd8 (by intro z; cases z)) (e79 _ _ hx7), T89 _ _ (e79 _ _ hs7), keep_ne dfh (e79 _ _ hh7), upd_same, ?_, by rw [List.length_append, htl]; rfl, hb', ?_⟩
        · refine (TripsIn.snoc (hts7.ts (Same.ts e79)) ⟨g, y, hp2, hG.ts (Same.ts e79), hY.ts (Same.ts e79)⟩).ts T89
        · rw [← heq, List.append_assoc]
          rfl
      · tm_at "s"
        exact stop (by unfold goesM; rw [hgo, Bool.and_false]) H7 e7
    · have c1' : ¬ box < n := c1
      tm_at "s"
      exact stop (by unfold goesM; rw [decide_eq_false c1']; rfl) H6 (Same.refl _)
  · rintro σ H5 ⟨x5, x6, x7, x8, s, ss, e, l', xs, ts, rfl, e5, hpl, hx5, hs5, hh5, hfd5, hts, htl, hb, heq⟩
    rw [List.length_map, hil, List.drop_length, cellsM, List.append_nil] at heq
    subst heq
    rw [List.length_map, hil] at htl
    tm_at "s"
    refine ⟨_, _, rfl, .inl ⟨SqL.of hfd5, fun p np => ?_⟩⟩
    have e6 := same_new (o := .tup xs) np
    exact q1 htl p xs _ (Same.trans e5 e6) upd_same (hts.ts (Same.ts e6))
end
end Rf
namespace L2
open PySem PySem.Spec PyProof.Rows
/-- what the class must say, so that isinstance asks its instances rightly -/
structure BwIs (K : PySem.W.Frag) (C : Addr) : Prop where
  cl : (PySem.W.clsIn K C).isSome = true
  ga : PySem.W.findIn K (.ref C) "__getattribute__" = some (some (.builtin "BaseException.__getattribute__"))
  gg : PySem.W.findIn K (.ref C) "__getattr__" = some none
  exC : PySem.W.subIn K (.ref C) (.type "BaseException") = some true
  ha : PySem.W.findIn K (.ref C) "__class__" = some (some (.builtin "object.__class__"))
  hn : PySem.W.specialIn K (.builtin "object.__class__") "__get__" = some (some (.builtin "getset_descriptor.__get__"))
  ht : PySem.W.takesIn K (.builtin "object.__class__") = some true
  hm : PySem.W.mroIn K C (.type "object") = some true
  is : PySem.W.kitOne K (.ref C) (.ref C) = some true
/-- isinstance(e, C), e the exception that the suite holds, of the class C, with an own dict -/
def rIsBw (C a : Addr) (cls : Value) (d : Option Addr) : List V → Hp → VK → Prop := fun xs H Q => xs = [.ref a, .ref C] ∧ cls = .ref C ∧ (∃ (dd : Addr) (fs : List (Str × V)), d = some dd ∧ H dd = some (.xd fs)) ∧ Q (.bl true) H
theorem call_isBw {X : Cx} {a C : Addr} {oe : Obj} {cls : Value} {d : Option Addr} {pn : List (Addr × Obj)} (T : BwIs X.K C) (hz : Zc cls d oe) (hf : ∃ vs, oe.data = .fields vs) : CallR (X.suite a ((a, oe) :: pn)) (.builtin "isinstance") (rIsBw C a cls d) := by
  intro pins s σ H xs us Q I r h
  obtain ⟨rfl, rfl, ⟨dd, fs, rfl, ea⟩, q⟩ := h
  cases r with
  | cons rx rr =>
    cases rr with
    | cons rt rr =>
      cases rr
      cases rx
      cases rt
      obtain ⟨hget, _⟩ := I.pin (a, oe) (List.mem_append.mpr (.inl List.mem_cons_self))
      obtain ⟨vs, hv⟩ := hf
      have hx : ObjOk X.prog X.w H s.heap dd (.xd fs) := I.hok dd _ ea
      obtain ⟨mA, hns, hr⟩ := hx
      obtain ⟨od, ho, _⟩ := lookIn_ns hns
      have J : PySem.W.InstAt s.heap a oe C (some od) := ⟨hget, hz.1, by unfold PySem.W.notCls; rw [hv] <;> rfl, by rw [hz.2]; exact ho⟩
      exact PySem.W.kia_one (PySem.W.kitx_exc (gt := none) (od := some od) T.cl T.ga T.gg T.exC T.ha T.hn T.ht T.hm) I.kIn J T.is (fun z => nomatch z) fun tk => ⟨.bl true, H, I.kept (t' := tk) fun _ _ z => z, rfl, q⟩
end L2
namespace Rf
open PySem PySem.Spec L2
local macro_rules | `(tactic| tm_at "hp") => `(tactic| (first | assumption | exact FlowAt.top (by assumption) | exact FlowAt.all (by assumption) | exact FlowAt.pipe (by assumption) _ (by assumption) | exact upd_same | (refine keep_new (by assumption) ?_; tm_at "hp")))
local macro_rules | `(tactic| tm_at "sq") => `(tactic| (first | exact .inl (by assumption) | exact .inr (by assumption) | exact .inr (SqT.of (by tm_at "hp")) | exact .inl (SqL.of (by tm_at "hp"))))
local macro_rules | `(tactic| tm_at "at") => `(tactic| (first | rfl | exact itab_at (by assumption) | exact tab_at (by assumption) | (refine itab_atI ?_ ?_ <;> assumption)))
local macro_rules | `(tactic| tm_at "ix") => `(tactic| (refine' ⟨_, _, _, _, rfl, rfl, ?hs, ?ha, ?_⟩; (case hs => tm_at "sq"); (case ha => tm_at "at")))
local macro_rules | `(tactic| tm_at "len") => `(tactic| (refine' ⟨_, _, rfl, ?hs, ?_⟩; (case hs => tm_at "sq"); (first | rw [itab_len] | rw [tab_len] | rw [List.length_map] | skip)))
local macro_rules | `(tactic| tm_at "rg") => `(tactic| (refine ⟨rg_lo, rg_hi (by omega), ?_⟩))
local macro_rules | `(tactic| tm_at "rgi") => `(tactic| (refine ⟨rgi_lo (by omega), rgi_hi (by omega), ?_⟩))
local macro_rules | `(tactic| tm_at "ut") => `(tactic| (refine' ⟨_, _, rfl, ?hs, ?hl, ?_⟩; (case hs => exact SqT.of (by tm_at "hp")); (case hl => rfl)))
local macro_rules | `(tactic| tm_at "s") => `(tactic| repeat (first | refine ⟨_, rfl, ?_⟩ | refine ⟨_, _, rfl, rfl, ?_⟩ | tm_at "ix" | tm_at "len" | tm_at "ut" | refine ⟨rfl, ?_⟩ | refine ⟨_, _, rfl, ?_⟩ | refine ⟨_, _, _, rfl, ?_⟩ | refine Or.inl ⟨_, rfl, ?_⟩ | refine ⟨Or.inl ⟨rfl, _, SqL.of (by tm_at "hp")⟩, ?_⟩))
local macro_rules | `(tactic| tm_at "tl") => `(tactic| (refine' ⟨_, _, rfl, Or.inl ⟨SqL.of ?hs, ?_⟩⟩; (case hs => tm_at "hp")))
local macro_rules | `(tactic| tm_at "set") => `(tactic| (refine' ⟨_, _, _, _, rfl, rfl, ?hs, ?hj, ?_⟩; (case hs => tm_at "hp"); (case hj => (first | rfl | exact tab_ixN (by assumption)))))
local macro_rules | `(tactic| tm_at "sz") => `(tactic| (first | exact small_ok (Nat.le_of_ble_eq_true rfl) | exact Nat.le_of_ble_eq_true rfl))
local macro_rules | `(tactic| tm_at "acc") => `(tactic| (refine' ⟨_, ?ha, ?hz, ?_⟩; (case ha => tm_at "hp"); (case hz => (first | rw [itab_len] | rw [tab_len] | rw [List.length_map] | skip); exact small_lt (by omega))))
local macro_rules | `(tactic| tm_at "ap") => `(tactic| (refine' ⟨_, _, _, rfl, rfl, ?hs, ?hz, ?_⟩; (case hs => tm_at "hp")))
local macro_rules | `(tactic| tm_at "sm") => `(tactic| (first | assumption | exact Same.refl _ | (refine Same.new ?_ (by assumption); tm_at "sm") | (refine Same.mut ?_ (by assumption); tm_at "sm")))
section
variable {P : Program} {w : World} {K : PySem.W.Frag} {mg : Str → Option Value} {base : Heap}

def tLstN (K : PySem.W.Frag) (t : TA) : TE := fun σ H Q => t σ H fun xs H1 => xs.length ≤ sizeLine ∧ ∀ p, H1 p = none → K.lookup p = none → Q (.ref p) (upd H1 p (.lst xs))
/-- a new list is none of the written part -/
theorem pe_lstN {X : Cx} {es : List Expr} {t : TA} {pos : Pos} (h : PA X es t) : PE X (.List es pos) (tLstN X.K t) := by
  refine ⟨fun pins s σ H Q I hq => ?_⟩
  refine wpAny_List_spliced (thn (h.run pos pins s σ H _ I hq) fun us s1 ⟨xs, H1, I1, r, z, q⟩ => ⟨by rw [← r.length]; exact z, ?_⟩)
  have hf : H1 s1.heap.objs.size = none := I1.hok.fresh (Nat.le_refl _)
  have hk : X.K.lookup s1.heap.objs.size = none := by
    cases e : X.K.lookup s1.heap.objs.size with
    | none => rfl
    | some o => exact absurd (Heap.lt_size (I1.kIn _ _ e)) (Nat.lt_irrefl _)
  refine ⟨.ref s1.heap.objs.size, upd H1 s1.heap.objs.size (.lst xs), I1.laid (t' := s1.toks) (fun b u e => Heap.get?_push_of_some _ e) (Nat.le_refl _) ?_, rfl, q _ hf hk⟩
  exact ⟨z, us, 0, r, Heap.get?_push_size _ rfl⟩
theorem pe_lstNK {X : Cx} {es : List Expr} {t : TA} {pos : Pos} (hK : X.K = K) (h : PA X es t) : PE X (.List es pos) (tLstN K t) := hK ▸ pe_lstN h
theorem sqL_ne {H : Hp} {a row : Addr} {xs : List V} (h : SqL K H a xs) (n : H row = none) (nk : K.lookup row = none) : a ≠ row := by
  rintro rfl
  rcases h with (h | ⟨o, h⟩) | ⟨o, its, k, h, _⟩
  · rw [n] at h
    cases h
  · rw [n] at h
    cases h
  · rw [nk] at h
    cases h
/-! ### a word as looped code -/
def lpOf : List Int → Lp
  | [] => .nil
  | b :: r => .box b (lpOf r)
theorem lpOf_at {H : Hp} : ∀ ws : List Int, (lpOf ws).At H (ws.map V.int)
  | [] => rfl
  | b :: r => ⟨_, rfl, lpOf_at r⟩
theorem lpOf_ok {d : Nat} : ∀ {ws : List Int}, (∀ b ∈ ws, 0 ≤ b ∧ b ≤ 7) → (lpOf ws).Ok d
  | [], _ => Lp.nil_ok
  | b :: r, h => Lp.box_ok ⟨(h b (List.mem_cons_self ..)).1, (h b (List.mem_cons_self ..)).2, lpOf_ok fun c hc => h c (List.mem_cons_of_mem _ hc)⟩
theorem lpOf_size : ∀ ws : List Int, (lpOf ws).size = ws.length
  | [] => rfl
  | b :: r => by
    show 1 + (lpOf r).size = r.length + 1
    rw [lpOf_size r]
    exact Nat.add_comm _ _
/-! ### the cells that are due, in bounds -/
theorem cells_len {n m : Nat} {P : Nat → Pipe} {rm : Nat → Int} : ∀ (ws : List Int) (s e l : Nat → Int), (cellsM n m P rm s e l ws).length ≤ ws.length
  | [], _, _, _ => Nat.le_refl _
  | b :: w, s, e, l => by
    rw [cellsM]
    split
    · exact Nat.succ_le_succ (cells_len w _ _ _)
    · exact Nat.zero_le _
theorem cells_mem {n m : Nat} {P : Nat → Pipe} {rm : Nat → Int} : ∀ (ws : List Int) (s e l : Nat → Int) (t : Trip), t ∈ cellsM n m P rm s e l ws → t.gets.length ≤ m ∧ t.lays.length ≤ m
  | [], _, _, _, _, h => by cases h
  | b :: w, s, e, l, t, h => by
    rw [cellsM] at h
    split at h
    · rcases List.mem_cons.mp h with rfl | h
      · exact ⟨fl_len (m := m) (pr := fun k => decide ((P k).other = b)) (g := fun k => (k, e k % rm k)), fl_len (m := m) (pr := fun k => decide ((P k).one = b)) (g := fun k => (k, l k % rm k))⟩
      · exact cells_mem w _ _ _ t h
    · cases h
/-! ### the same triples, twice in the heap -/
theorem tab_twin {H : Hp} {d n : Nat} {ad bd : Nat → Addr} (h : ∀ k, k < n → Twin H d (.ref (ad k)) (.ref (bd k))) (k : Nat) (x y : V) (hx : (tab n fun k => V.ref (ad k))[k]? = some x) (hy : (tab n fun k => V.ref (bd k))[k]? = some y) : Twin H d x y := by
  obtain ⟨hk, rfl⟩ := tab_some hx
  obtain ⟨_, rfl⟩ := tab_some hy
  exact h k hk
theorem pairs_twin {H : Hp} {a b : Addr} {ps : List (Nat × Int)} (ha : PairsAt H a ps) (hb : PairsAt H b ps) (hz : ps.length ≤ 100000) : Twin H 2 (.ref a) (.ref b) := by
  obtain ⟨ad, h1, h2⟩ := ha
  obtain ⟨bd, g1, g2⟩ := hb
  refine .tup 1 a b _ _ h1 g1 (by rw [tab_len, tab_len]) (by rw [tab_len]; exact hz) (tab_twin fun k hk => ?_)
  have e : ps[k]? = some ps[k] := List.getElem?_eq_getElem hk
  refine .tup 0 _ _ _ _ (h2 k _ e) (g2 k _ e) rfl (by show 2 ≤ _; omega) fun j x y hx hy => ?_
  match j, hx, hy with
  | 0, hx, hy => cases hx; cases hy; exact .int 0 _
  | 1, hx, hy => cases hx; cases hy; exact .int 0 _
theorem trips_twin {H : Hp} {a b : Addr} {xs ys : List V} {ts : List Trip} (ha : H a = some (.tup xs)) (hb : H b = some (.tup ys)) (h : TripsIn H xs ts) (g : TripsIn H ys ts) (hz : ts.length ≤ 100000) (hm : ∀ t ∈ ts, t.gets.length ≤ 100000 ∧ t.lays.length ≤ 100000) : Twin H 4 (.ref a) (.ref b) := by
  obtain ⟨ad, rfl, h2⟩ := h
  obtain ⟨bd, rfl, g2⟩ := g
  refine .tup 3 a b _ _ ha hb (by rw [tab_len, tab_len]) (by rw [tab_len]; exact hz) (tab_twin fun k hk => ?_)
  have e : ts[k]? = some ts[k] := List.getElem?_eq_getElem hk
  obtain ⟨m1, m2⟩ := hm _ (List.mem_of_getElem? e)
  obtain ⟨p, q, t1, t2, t3⟩ := h2 k _ e
  obtain ⟨p', q', u1, u2, u3⟩ := g2 k _ e
  refine .tup 2 _ _ _ _ t1 u1 rfl (by show 3 ≤ _; omega) fun j x y hx hy => ?_
  match j, hx, hy with
  | 0, hx, hy => cases hx; cases hy; exact .int 2 _
  | 1, hx, hy => cases hx; cases hy; exact pairs_twin t2 u2 m1
  | 2, hx, hy => cases hx; cases hy; exact pairs_twin t3 u3 m2
def spLaw (K : PySem.W.Frag) : Sp := fun vs H Q _ => ∃ (a : Addr) (ns : List Int), vs = [.ref a] ∧ SqL K H a (ns.map V.int) ∧ ns.length ≤ 63 ∧ ∀ H', Q (.bl true) H'
theorem ok_law {B fB FE f0 : Addr} {fd0 : FuncData} (F0 : Fun K "law" "law" s_law f0 fd0) (T : Tx mg) (TB : PySem.BwX.BwTxt P K mg B fB) (BI : BwIs K B) (XF : XfC K B) (gF : mg "FlowError" = some (.ref FE)) (xF : PySem.W.exmOne K (.ref B) (.ref FE) = some true)
    (C_pick : Ca P w K mg base CX0 2 "_law_pick" p_pick (spPick K)) (C_any : Ca P w K mg base CX0 2 "_law_any" p_any (spAny K)) (C_live : Ca P w K mg base CX0 4 "_law_live" p_live (spLive K)) (C_word : Ca P w K mg base CX0 3 "_law_word" p_word (spWord K)) (C_folded : Ca P w K mg base CX0 12 "folded" p_folded spFolded)
    (C_taken : Ca P w K mg base CX0 1 "_law_taken" p_taken (spTaken K)) (C_loop : Ca P w K mg base CX0 4 "_law_loop" p_loop (spLoop K 2)) (C_unrolled : Ca P w K mg base CX0 9 "_law_unrolled" p_unrolled (spUnr 8)) (C_code : Ca P w K mg base CX0 9 "_law_code" p_code (spCode 8)) (C_peaks : Ca P w K mg base CX0 2 "_law_peaks" p_peaks spPeaks)
    (C_room : Ca P w K mg base CX0 2 "_law_room" p_room (spRoom K)) (C_cells : Ca P w K mg base CX0 2 "_law_cells" p_cells spCells) (C_trace : Ca P w K mg base (L2.CX P w) 13 "trace" p_trace (spTrace B)) (C_alike : Ca P w K mg base CX0 5 "_law_alike" p_alike (spAlike 4)) : FnOk P w K mg base CX0 14 f0 fd0 p_law (spLaw K) := by
  obtain ⟨f_pick, fd_pick, G_pick, m_pick, k_pick, b_pick⟩ := C_pick
  obtain ⟨f_any, fd_any, G_any, m_any, k_any, b_any⟩ := C_any
  obtain ⟨f_live, fd_live, G_live, m_live, k_live, b_live⟩ := C_live
  obtain ⟨f_word, fd_word, G_word, m_word, k_word, b_word⟩ := C_word
  obtain ⟨f_folded, fd_folded, G_folded, m_folded, k_folded, b_folded⟩ := C_folded
  obtain ⟨f_taken, fd_taken, G_taken, m_taken, k_taken, b_taken⟩ := C_taken
  obtain ⟨f_loop, fd_loop, G_loop, m_loop, k_loop, b_loop⟩ := C_loop
  obtain ⟨f_unrolled, fd_unrolled, G_unrolled, m_unrolled, k_unrolled, b_unrolled⟩ := C_unrolled
  obtain ⟨f_code, fd_code, G_code, m_code, k_code, b_code⟩ := C_code
  obtain ⟨f_peaks, fd_peaks, G_peaks, m_peaks, k_peaks, b_peaks⟩ := C_peaks
  obtain ⟨f_room, fd_room, G_room, m_room, k_room, b_room⟩ := C_room
  obtain ⟨f_cells, fd_cells, G_cells, m_cells, k_cells, b_cells⟩ := C_cells
  obtain ⟨f_trace, fd_trace, G_trace, m_trace, k_trace, b_trace⟩ := C_trace
  obtain ⟨f_alike, fd_alike, G_alike, m_alike, k_alike, b_alike⟩ := C_alike
  refine F0.ok sc_law (fun vs H Q E h => ?_) (fun cdv A outer s0 H vs Q E hr h => ?_)
  · obtain ⟨a, ns, rfl, _⟩ := h
    rfl
  obtain ⟨a, ns, rfl, hS, hlen, q⟩ := h
  refine ⟨_, (pss_cons (ps_set (i := 1) sc_law.nd rfl (.inr rfl) (pe_lstNK (K := K) rfl (pa_cons (pv 0) (pa_cons pe_int (pa_cons pe_int (pa_cons pe_int pa_nil)))))) (pss_cons (ps_set (i := 2) sc_law.nd rfl (.inl rfl) (pe_call G_pick (hr.mono (by decide)) (by rfl) m_pick k_pick b_pick .nil pass0 (pa_cons (pv 1) (pa_cons (pe_lst (pa_cons (pe_call G_any (hr.mono (by decide)) (by rfl) m_any k_any b_any .nil pass0 (pa_cons (pv 1) pa_nil)) (pa_cons (pe_call G_live (hr.mono (by decide)) (by rfl) m_live k_live b_live .nil pass0 (pa_cons (pv 1) (pa_cons pe_int (pa_cons pe_int pa_nil)))) pa_nil))) pa_nil)))) (pss_cons (ps_set (i := 3) sc_law.nd rfl (.inl rfl) (pe_call G_word (hr.mono (by decide)) (by rfl) m_word k_word b_word .nil pass0 (pa_cons (pv 1) (pa_cons (pv 2) (pa_cons pe_int pa_nil))))) (pss_cons (ps_set (i := 4) sc_law.nd rfl (.inl rfl) (pe_call G_pick (hr.mono (by decide)) (by rfl) m_pick k_pick b_pick .nil pass0 (pa_cons (pv 1) (pa_cons (pe_lst (pa_cons (pe_call G_folded (hr.mono (by decide)) (by rfl) m_folded k_folded b_folded .nil pass0 (pa_cons (pv 3) pa_nil)) (pa_cons (pv 3) (pa_cons (pe_op (op_catK (K := K) rfl) (pv 3) (pe_tup (pa_cons (pe_call G_taken (hr.mono (by decide)) (by rfl) m_taken k_taken b_taken .nil pass0 (pa_cons (pv 1) (pa_cons pe_int pa_nil))) pa_nil))) (pa_cons (pe_call G_loop (hr.mono (by decide)) (by rfl) m_loop k_loop b_loop .nil pass0 (pa_cons (pv 1) (pa_cons pe_int (pa_cons pe_int pa_nil)))) pa_nil))))) pa_nil)))) (pss_cons (ps_par3 (i := 5) (j := 6) (l := 7) (by rfl) sc_law.nd rfl rfl rfl (by decide) (by decide) (by decide) rfl rfl rfl (pa_cons (pe_call G_unrolled (hr.mono (by decide)) (by rfl) m_unrolled k_unrolled b_unrolled .nil pass0 (pa_cons (pv 4) pa_nil)) (pa_cons (pe_call G_code (hr.mono (by decide)) (by rfl) m_code k_code b_code .nil pass0 (pa_cons (pv 4) pa_nil)) (pa_cons pe_non pa_nil))) (by rfl)) (pss_cons (ps_set (i := 8) sc_law.nd rfl (.inl rfl) (pe_call G_peaks (hr.mono (by decide)) (by rfl) m_peaks k_peaks b_peaks .nil pass0 (pa_cons (pv 2) (pa_cons (pv 3) pa_nil)))) (pss_cons (ps_set (i := 9) sc_law.nd rfl (.inl rfl) (pe_call G_pick (hr.mono (by decide)) (by rfl) m_pick k_pick b_pick .nil pass0 (pa_cons (pv 1) (pa_cons (pe_lst (pa_cons (pv 8) (pa_cons (pe_callTy (call_tupleK (K := K) rfl) (by rfl) T.z_tuple (by decide +kernel) (pa_cons (pe_lc (own := [("_law_one", 12)]) (g := gName 12) (by rfl) sc_law.nd (pi_tupK (K := K) rfl (pv 8)) (blkOk_by (own := [("_law_one", 12)]) (N := n_law) (sc := defScope s_law) (by decide +kernel)) (fun _ _ _ _ _ => pg_name (i := 12) sc_law.nd rfl (Or.inl rfl)) (fun _ _ _ _ _ => pts_nil) (fun _ _ _ _ _ => (pe_op op_add (pv 12) (pe_call G_taken (hr.mono (by decide)) (by rfl) m_taken k_taken b_taken .nil pass0 (pa_cons (pv 1) (pa_cons pe_int pa_nil)))))) pa_nil)) (pa_cons (pe_call G_room (hr.mono (by decide)) (by rfl) m_room k_room b_room .nil pass0 (pa_cons (pv 1) (pa_cons (pv 2) (pa_cons pe_int pa_nil)))) pa_nil)))) pa_nil)))) (pss_cons (ps_set (i := 10) sc_law.nd rfl (.inl rfl) (pe_call G_cells (hr.mono (by decide)) (by rfl) m_cells k_cells b_cells .nil pass0 (pa_cons (pv 2) (pa_cons (pv 5) (pa_cons (pv 9) pa_nil))))) (pss_cons (ps_try_as (i := 11) (tb := fun W => tAsg (tCallS (spTrace B) (WE W) (tCons (tVar 2) (tCons (tVar 6) (tCons (tVar 9) tNil)))) (gName 7)) (ts := fun a cls d => tAsg (tIf (tB (tCB (rIsBw B a cls d) (tCons (tVar 11) (tCons (tC (.ref B)) tNil)))) (tXf a cls d B "index" (tVar 11)) (tC (.str "other"))) (gName 7)) (Wout := fun _ _ _ _ => False) rfl rfl sc_law.nd rfl rfl ⟨rfl, by decide, Or.inl gF⟩ takes0 (fun W pn xe tk _ => pss_one (ps_set (i := 7) sc_law.nd rfl (.inl rfl) (by exact (pe_callS G_trace (hr.mono (by decide)) rfl m_trace k_trace b_trace (fun σ => passAt tk σ) (by exact (pa_cons (pv 2) (pa_cons (pv 6) (pa_cons (pv 9) pa_nil)))))))) (fun a oe cls d pn hz hf => pss_one (ps_set (i := 7) sc_law.nd rfl (.inl rfl) (by exact (pe_ifExp (pt_val (pe_callB (call_isBw BI hz hf) (by rfl) T.z_isinstance (by decide +kernel) (pa_cons (pv 11) (pa_cons (pe_glob (v := .ref B) (by rfl) TB.gC rfl) pa_nil)))) (pe_xf XF TB.noN hz hf (pv 11)) pe_str))))) (pss_one (ps_ret (pe_call G_alike (hr.mono (by decide)) (by rfl) m_alike k_alike b_alike .nil pass0 (pa_cons (pv 7) (pa_cons (pe_ifExp (pt_cmpR op_eq (pe_callB (call_lenK (K := K) rfl) (by rfl) T.z_len PySem.boot_len (pa_cons (pv 10) pa_nil)) (pe_callB (call_lenK (K := K) rfl) (by rfl) T.z_len PySem.boot_len (pa_cons (pv 5) pa_nil)) (nomark _)) (pe_callTy (call_tupleK (K := K) rfl) (by rfl) T.z_tuple (by decide +kernel) (pa_cons (pv 10) pa_nil)) (pe_callB (call_lenK (K := K) rfl) (by rfl) T.z_len PySem.boot_len (pa_cons (pv 10) pa_nil))) pa_nil)))))))))))))), ?_⟩
  tm_at "s"
  refine ⟨by tm_at "sz", fun row nrow krow => ?_⟩
  have har := sqL_ne hS nrow krow
  have hS1 := (same_new (o := .lst [.ref a, .int 0, .int 9855, .int 0]) nrow).seq hS
  have R1 : RowAt K (upd H row (.lst [.ref a, .int 0, .int 9855, .int 0])) row a := ⟨ns, 0, 9855, 0, upd_same, hS1, har, hlen, Int.le_refl _, by decide, by decide⟩
  generalize upd H row (.lst [.ref a, .int 0, .int 9855, .int 0]) = H1 at R1 ⊢
  clear hS1 har nrow krow hS
  tm_at "s"
  -- a flow
  refine ⟨row, a, rfl, R1, fun f1 n1 m1 P1 pa1 ad1 H2 hO1 k2 R2 hF1 => ?_⟩
  tm_at "s"
  refine ⟨row, a, rfl, R2, fun f2 n2 m2 P2 pa2 ad2 H3 hO2 k3 R3 hF2 => ?_⟩
  have hF1 := hF1.ts (R2.ts k3)
  refine ⟨by tm_at "sz", fun l1 nl1 => ?_⟩
  have e4 := same_new (o := .lst [.ref f1, .ref f2]) nl1
  refine ⟨row, a, l1, _, rfl, R3.same e4, upd_same, R3.ne nl1, by tm_at "sz", by tm_at "sz", fun k v H5 hv k5 R5 => ?_⟩
  have T35 : Ts H3 H5 := Ts.trans (Same.ts e4) ((R3.same e4).ts k5)
  obtain ⟨f, n, m, Pi, pa, ad, rfl, hF, hO⟩ : ∃ (f : Addr) (n m : Nat) (Pi : Nat → Pipe) (pa : Addr) (ad : Nat → Addr), v = .ref f ∧ FlowAt H5 f n m Pi pa ad ∧ FlowOk n m Pi 1000 := by
    match k, hv with
    | 0, hv => cases hv; exact ⟨f1, n1, m1, P1, pa1, ad1, rfl, hF1.ts T35, hO1⟩
    | 1, hv => cases hv; exact ⟨f2, n2, m2, P2, pa2, ad2, rfl, hF2.ts T35, hO2⟩
  clear T35 hv k5 e4 nl1 hF1 hF2 hO1 hO2 k2 k3 R1 R2 R3
  have hn5 := hO.n5
  have hm6 := hO.m6
  tm_at "s"
  -- a word
  refine ⟨row, a, f, n, m, Pi, pa, ad, rfl, R5, hF, hO, fun wa ws H6 k6 R6 hw hwl hwb => ?_⟩
  have hF := hF.ts (R5.ts k6)
  clear k6 R5
  tm_at "s"
  -- looped code
  refine ⟨wa, ws, rfl, hw, hwl, fun b hb => ⟨(hwb b hb).1, by have := (hwb b hb).2; omega⟩, fun a1 lp1 H7 e7 hl1 ho1 hz1 => ?_⟩
  have hw7 := e7 _ _ hw
  have R7 := R6.same e7
  have hF7 := hF.ts (Same.ts e7)
  tm_at "s"
  refine ⟨_, _, _, rfl, R7, by first | decide | omega, by first | decide | omega, fun t H_t t0 t1 k_t R_t => ?_⟩
  have hw8 := R7.ts k_t _ _ hw7
  have hl8 := hl1.ts (R7.ts k_t)
  have hF8 := hF7.ts (R7.ts k_t)
  refine ⟨by tm_at "sz", fun p8 np8 => ?_⟩
  have e9 := same_new (o := .tup [.int t]) np8
  refine st_cat (e9 _ _ hw8) upd_same (by rw [List.length_map]; show _ + 1 ≤ _; omega) fun w2 H9 e9' hw2 => ?_
  have e89 := Same.trans e9 e9'
  have R9 := R_t.same e89
  have hw9 := e89 _ _ hw8
  have hl9 := hl8.ts (Same.ts e89)
  have hF9 := hF8.ts (Same.ts e89)
  tm_at "s"
  refine ⟨row, a, rfl, R9, fun a4 lp4 H10 k10 R10 hl4 ho4 hz4 => ?_⟩
  have T10 := R9.ts k10
  refine ⟨by tm_at "sz", fun l2 nl2 => ?_⟩
  have e11 := same_new (o := .lst [.ref a1, .ref wa, .ref w2, .ref a4]) nl2
  refine ⟨row, a, l2, _, rfl, R10.same e11, upd_same, R10.ne nl2, by tm_at "sz", by tm_at "sz", fun k v H12 hv k12 R12 => ?_⟩
  have T12 := Ts.trans (Same.ts e11) ((R10.same e11).ts k12)
  have T912 := Ts.trans T10 T12
  have hw12 := T912 _ _ hw9
  have hw2' := T912 _ _ hw2
  obtain ⟨la, lp, rfl, hL, hLo, hLz⟩ : ∃ (la : Addr) (lp : Lp), v = .ref la ∧ LoopAt H12 la lp ∧ lp.Ok 8 ∧ lp.size ≤ 2000 := by
    match k, hv with
    | 0, hv => cases hv; exact ⟨a1, lp1, rfl, hl9.ts T912, ho1, by omega⟩
    | 1, hv => cases hv; exact ⟨wa, lpOf ws, rfl, ⟨_, hw12, lpOf_at ws⟩, lpOf_ok fun b hb => ⟨(hwb b hb).1, by have := (hwb b hb).2; omega⟩, by rw [lpOf_size]; omega⟩
    | 2, hv =>
      cases hv
      refine ⟨w2, lpOf (ws ++ [t]), rfl, ⟨_, hw2', ?_⟩, lpOf_ok fun b hb => ?_, by rw [lpOf_size, List.length_append]; show _ + 1 ≤ _; omega⟩
      · have := lpOf_at (H := H12) (ws ++ [t])
        rw [List.map_append] at this
        exact this
      · rcases List.mem_append.mp hb with hb | hb
        · exact ⟨(hwb b hb).1, by have := (hwb b hb).2; omega⟩
        · have eb : b = t := by simpa using hb
          omega
    | 3, hv =>
      cases hv
      refine ⟨a4, lp4, rfl, hl4.ts T12, ho4.to (by decide), Nat.le_trans hz4 ?_⟩
      decide
  have hF12 := hF9.ts T912
  clear hv k12 e11 nl2 T10 T12 T912 hl4 ho4 hz4 R10 hl9 hw9 R9 e89 e9' e9 np8 hl8 hF8 hw8 hF7 R7 hw7 hl1 ho1 hz1 e7 hw hF hw2 hF9 hw2' R_t k_t k10 R6
  tm_at "s"
  refine ⟨la, lp, rfl, hL, hLo, hLz, fun li H13 e13 hli => ?_⟩
  tm_at "s"
  refine ⟨la, lp, rfl, hL.ts (Same.ts e13), hLo, hLz, fun ca cad H14 e14 hca => ?_⟩
  tm_at "s"
  have e1214 := Same.trans e13 e14
  have hli14 := e14 _ _ hli
  have hF14 := hF12.ts (Same.ts e1214)
  have hw14 := e1214 _ _ hw12
  have R14 := R12.same e1214
  clear hF12 hw12 R12 hL hli e13 e14 e1214
  -- the peaks
  refine ⟨f, wa, n, m, Pi, ws, pa, ad, rfl, hF14, hO, hw14, hwl, fun na rm1 H15 e15 hna hrm1 => ?_⟩
  have hF15 := hF14.ts (Same.ts e15)
  have hli15 := e15 _ _ hli14
  have hca15 := hca.ts (Same.ts e15)
  have R15 := R14.same e15
  clear hF14 hw14 hli14 hca R14 e15
  tm_at "s"
  -- the room
  refine ⟨⟨_, SqT.of hna⟩, fun D nD => ?_⟩
  have Dr := R15.ne nD
  have e16 := same_new (o := .lst []) nD
  refine lc_tup (K := K) (a := na) (xs := itab m rm1) (fun j H16 => Kp row H15 H16 ∧ RowAt K H16 row a ∧ ∃ rs : Nat → Int, H16 D = some (.lst (itab j rs)) ∧ ∀ k, k < j → (Pi k).start ≤ rs k ∧ rs k ≤ 3000) ⟨Same.kp e16, R15.same e16, fun _ => 0, upd_same, fun k hk => absurd hk (Nat.not_lt_zero k)⟩ ?_ ?_ ?_
  · rintro j H16 hj ⟨k16, R16, _⟩
    exact SqT.of (R15.ts k16 _ _ hna)
  · rintro j x H16 hx ⟨k16, R16, rs, hD16, hr16⟩
    obtain ⟨hj, rfl⟩ := tab_some hx
    have hr1 := hrm1 j hj
    refine ⟨rfl, ?_⟩
    tm_at "s"
    refine ⟨_, _, _, rfl, R16, by first | decide | omega, by first | decide | omega, fun v H_v v0 v1 k_v R_v => ?_⟩
    tm_at "s"
    refine ⟨_, k_v _ _ Dr hD16, small_lt (by rw [itab_len]; omega), Kp.mut (Kp.trans k16 k_v) nD, R_v.mut R15 nD, ext rs j (rm1 j + v), ?_, fun k hk => ?_⟩
    · rw [upd_same]
      exact congrArg (fun z => some (HO.lst z)) (tab_ext V.int)
    · by_cases e : k = j
      · subst e
        rw [ext_same]
        omega
      · rw [ext_ne e]
        exact hr16 k (by omega)
  rintro H16 ⟨k16, R16, rs, hD16, hr16⟩
  rw [itab_len] at hD16 hr16
  refine ⟨_, _, rfl, .inl ⟨SqL.of hD16, fun ta nta => ?_⟩⟩
  have e17 := same_new (o := .tup (itab m rs)) nta
  have T17 := Ts.trans (R15.ts k16) (Same.ts e17)
  have hta : upd H16 ta (.tup (itab m rs)) ta = some (.tup (itab m rs)) := upd_same
  have R17 := R16.same e17
  generalize upd H16 ta (.tup (itab m rs)) = H17 at e17 T17 hta R17 ⊢
  have hF17 := hF15.ts T17
  tm_at "s"
  refine ⟨row, a, f, n, m, Pi, pa, ad, rfl, R17, hF17, hO, fun ra rm3 H18 k18 R18 hra3 hrm3 => ?_⟩
  have T18 := R17.ts k18
  refine ⟨by tm_at "sz", fun l3 nl3 => ?_⟩
  have e19 := same_new (o := .lst [.ref na, .ref ta, .ref ra]) nl3
  refine ⟨row, a, l3, _, rfl, R18.same e19, upd_same, R18.ne nl3, by tm_at "sz", by tm_at "sz", fun k v H20 hv k20 R20 => ?_⟩
  have T20 := Ts.trans (Same.ts e19) ((R18.same e19).ts k20)
  have T1520 := Ts.trans T17 (Ts.trans T18 T20)
  obtain ⟨oa, rm, rfl, hrm, hrmb⟩ : ∃ (oa : Addr) (rm : Nat → Int), v = .ref oa ∧ H20 oa = some (.tup (itab m rm)) ∧ ∀ k, k < m → (Pi k).start ≤ rm k ∧ rm k ≤ 99999 := by
    match k, hv with
    | 0, hv => cases hv; exact ⟨na, rm1, rfl, T1520 _ _ hna, fun k hk => ⟨(hrm1 k hk).1, by have := (hrm1 k hk).2; omega⟩⟩
    | 1, hv => cases hv; exact ⟨ta, rs, rfl, T20 _ _ (T18 _ _ hta), fun k hk => ⟨(hr16 k hk).1, by have := (hr16 k hk).2; omega⟩⟩
    | 2, hv => cases hv; exact ⟨ra, rm3, rfl, T20 _ _ hra3, fun k hk => ⟨(hrm3 k hk).1, by have := (hrm3 k hk).2; omega⟩⟩
  have hF20 := hF15.ts T1520
  have hli20 := T1520 _ _ hli15
  have hca20 := hca15.ts T1520
  clear hF15 hli15 hca15 hF17 T17 T18 T20 T1520 hv k20 R20 e19 nl3 R18 R17 k18 hra3 hrm3 hta e17 nta hD16 hr16 k16 R16 R15 hna hrm1 nD Dr e16
  have hul : lp.unr.length ≤ 2000 := by
    rw [Lp.unr_len]
    exact hLz
  tm_at "s"
  -- what is due
  refine ⟨f, li, oa, n, m, Pi, lp.unr, rm, pa, ad, rfl, hF20, hO, hli20, hul, hrm, hrmb, fun du xs H21 e21 hdu hts => ?_⟩
  have hF21 := hF20.ts (Same.ts e21)
  have hli21 := e21 _ _ hli20
  have hca21 := hca20.ts (Same.ts e21)
  have hrm21 := e21 _ _ hrm
  have hcl := cells_len (n := n) (m := m) (P := Pi) (rm := rm) lp.unr (fun k => (Pi k).start) (fun _ => 0) (fun k => (Pi k).start)
  have hcm := cells_mem (n := n) (m := m) (P := Pi) (rm := rm) lp.unr (fun k => (Pi k).start) (fun _ => 0) (fun k => (Pi k).start)
  tm_at "s"
  have hxl := hts.len
  refine ⟨f, ca, oa, n, m, Pi, rm, lp, pa, ad, cad, rfl, hF21, hO, hca21, hLo, hLz, hrm21, hrmb, fun hl p ys H22 e22 hp htr => ?_, fun hl d H22 e22 hd => ?_⟩
  · have hdu22 := e22 _ _ hdu
    have hli22 := e22 _ _ hli21
    have hts22 := hts.ts (Same.ts e22)
    tm_at "s"
    refine ite_eqi (fun _ => ?_) (fun c => absurd (by rw [hxl, hl]) c)
    tm_at "s"
    refine ⟨_, _, rfl, .inl ⟨SqL.of hdu22, fun p2 np2 => ?_⟩⟩
    have e23 := same_new (o := .tup xs) np2
    refine ⟨_, _, rfl, trips_twin (e23 _ _ hp) upd_same (htr.ts (Same.ts e23)) (hts22.ts (Same.ts e23)) (by omega) (fun t ht => ?_), fun H24 _ => q H24⟩
    obtain ⟨m1, m2⟩ := hcm t ht
    exact ⟨by omega, by omega⟩
  · have hdu22 := e22 _ _ hdu
    have hli22 := e22 _ _ hli21
    refine ⟨true, xF, fun _ a0 na0 => ?_, fun z => Bool.noConfusion z⟩
    tm_at "s"
    refine ⟨⟨d, _, rfl, hd⟩, ?_⟩
    tm_at "s"
    refine ⟨d, _, _, rfl, hd, rfl, ?_⟩
    tm_at "s"
    refine ite_eqi (fun c => absurd (by omega) hl) (fun _ => ?_)
    have ex : ((xs.length : Nat) : Int) = ((cellsM n m Pi rm (fun k => (Pi k).start) (fun _ => 0) (fun k => (Pi k).start) lp.unr).length : Nat) := by rw [hxl]
    refine ⟨_, rfl, du, xs, rfl, .inl (SqL.of hdu22), _, _, rfl, ?_, fun H24 _ => q H24⟩
    rw [ex]
    exact .int 4 _
end
end Rf
namespace Rf
open PySem PySem.Spec L2
section
variable {P : Program} {w : World} {K : PySem.W.Frag} {mg : Str → Option Value} {h : Heap} {x : Str} {st : Stmt} {ps : List Str} {f : Addr} {od an : Option Addr} {sl : Array (Option Value)} {oc kV dc pm cd ct : Value}
theorem df_mk (X : K.In h) (G : h.Ns mainGlobals mg) (b : ∀ (kV doc pm : Value) (an : Option Addr) (cdv ct : Value) (us : List Value), us.length = ps.length → bindArgs (PySem.W.fnOf x x (defArgs st) (defBody st) (defScope st) .none kV doc pm an cdv ct) ⟨us, []⟩ = pure (ps.zip us))
    (a : PySem.W.nsIn K mainGlobals x = some (some (.ref f))) (l : K.lookup f = some ⟨oc, od, .func (PySem.W.fnOf x x (defArgs st) (defBody st) (defScope st) .none kV dc pm an cd ct), sl⟩) (c : PySem.W.codeIn K cd x = true) (k : PySem.W.keepIn K (.ref f) = true) : Df K mg x st ps :=
  ⟨f, _, fun_mk l c k, PySem.W.mg_of X G a, (fun_mk l c k).binds b⟩
theorem cn_mk {n : Int} {t : Tok} (X : K.In h) (G : h.Ns mainGlobals mg) (a : PySem.W.nsIn K mainGlobals x = some (some (.int n t))) : Cn mg x n := ⟨t, PySem.W.mg_of X G a⟩
theorem tx_mk (X : K.In h) (G : h.Ns mainGlobals mg)
    (z_len : PySem.W.nsIn K mainGlobals "len" = some none)
    (z_range : PySem.W.nsIn K mainGlobals "range" = some none)
    (z_isinstance : PySem.W.nsIn K mainGlobals "isinstance" = some none)
    (z_int : PySem.W.nsIn K mainGlobals "int" = some none)
    (z_bool : PySem.W.nsIn K mainGlobals "bool" = some none)
    (z_tuple : PySem.W.nsIn K mainGlobals "tuple" = some none)
    (z_list : PySem.W.nsIn K mainGlobals "list" = some none)
    (z_str : PySem.W.nsIn K mainGlobals "str" = some none)
    (z_enumerate : PySem.W.nsIn K mainGlobals "enumerate" = some none)
    (z_max : PySem.W.nsIn K mainGlobals "max" = some none)
    (z_abs : PySem.W.nsIn K mainGlobals "abs" = some none)
    (z_sum : PySem.W.nsIn K mainGlobals "sum" = some none)
    : Tx mg := ⟨PySem.W.mg_none_of X G z_len, PySem.W.mg_none_of X G z_range, PySem.W.mg_none_of X G z_isinstance, PySem.W.mg_none_of X G z_int, PySem.W.mg_none_of X G z_bool, PySem.W.mg_none_of X G z_tuple, PySem.W.mg_none_of X G z_list, PySem.W.mg_none_of X G z_str, PySem.W.mg_none_of X G z_enumerate, PySem.W.mg_none_of X G z_max, PySem.W.mg_none_of X G z_abs, PySem.W.mg_none_of X G z_sum⟩
theorem bn_is_in : ∀ (kV doc pm : Value) (an : Option Addr) (cdv ct : Value) (us : List Value), us.length = p_is_in.length → bindArgs (PySem.W.fnOf "is_in" "is_in" (defArgs s_is_in) (defBody s_is_in) (defScope s_is_in) .none kV doc pm an cdv ct) ⟨us, []⟩ = pure (p_is_in.zip us) := fun _ _ _ _ _ _ us hl => match us, hl with | [_, _, _], _ => rfl
theorem bn_is_pipe : ∀ (kV doc pm : Value) (an : Option Addr) (cdv ct : Value) (us : List Value), us.length = p_is_pipe.length → bindArgs (PySem.W.fnOf "is_pipe" "is_pipe" (defArgs s_is_pipe) (defBody s_is_pipe) (defScope s_is_pipe) .none kV doc pm an cdv ct) ⟨us, []⟩ = pure (p_is_pipe.zip us) := fun _ _ _ _ _ _ us hl => match us, hl with | [_, _], _ => rfl
theorem bn_need_flow : ∀ (kV doc pm : Value) (an : Option Addr) (cdv ct : Value) (us : List Value), us.length = p_need_flow.length → bindArgs (PySem.W.fnOf "need_flow" "need_flow" (defArgs s_need_flow) (defBody s_need_flow) (defScope s_need_flow) .none kV doc pm an cdv ct) ⟨us, []⟩ = pure (p_need_flow.zip us) := fun _ _ _ _ _ _ us hl => match us, hl with | [_], _ => rfl
theorem bn_marks_in : ∀ (kV doc pm : Value) (an : Option Addr) (cdv ct : Value) (us : List Value), us.length = p_marks_in.length → bindArgs (PySem.W.fnOf "marks_in" "marks_in" (defArgs s_marks_in) (defBody s_marks_in) (defScope s_marks_in) .none kV doc pm an cdv ct) ⟨us, []⟩ = pure (p_marks_in.zip us) := fun _ _ _ _ _ _ us hl => match us, hl with | [_], _ => rfl
theorem bn_lacks : ∀ (kV doc pm : Value) (an : Option Addr) (cdv ct : Value) (us : List Value), us.length = p_lacks.length → bindArgs (PySem.W.fnOf "lacks" "lacks" (defArgs s_lacks) (defBody s_lacks) (defScope s_lacks) .none kV doc pm an cdv ct) ⟨us, []⟩ = pure (p_lacks.zip us) := fun _ _ _ _ _ _ us hl => match us, hl with | [_, _, _], _ => rfl
theorem bn_behind : ∀ (kV doc pm : Value) (an : Option Addr) (cdv ct : Value) (us : List Value), us.length = p_behind.length → bindArgs (PySem.W.fnOf "behind" "behind" (defArgs s_behind) (defBody s_behind) (defScope s_behind) .none kV doc pm an cdv ct) ⟨us, []⟩ = pure (p_behind.zip us) := fun _ _ _ _ _ _ us hl => match us, hl with | [_, _, _], _ => rfl
theorem bn_size_of : ∀ (kV doc pm : Value) (an : Option Addr) (cdv ct : Value) (us : List Value), us.length = p_size_of.length → bindArgs (PySem.W.fnOf "size_of" "size_of" (defArgs s_size_of) (defBody s_size_of) (defScope s_size_of) .none kV doc pm an cdv ct) ⟨us, []⟩ = pure (p_size_of.zip us) := fun _ _ _ _ _ _ us hl => match us, hl with | [_, _], _ => rfl
theorem bn_deep_in : ∀ (kV doc pm : Value) (an : Option Addr) (cdv ct : Value) (us : List Value), us.length = p_deep_in.length → bindArgs (PySem.W.fnOf "deep_in" "deep_in" (defArgs s_deep_in) (defBody s_deep_in) (defScope s_deep_in) .none kV doc pm an cdv ct) ⟨us, []⟩ = pure (p_deep_in.zip us) := fun _ _ _ _ _ _ us hl => match us, hl with | [_], _ => rfl
theorem bn_folds_of : ∀ (kV doc pm : Value) (an : Option Addr) (cdv ct : Value) (us : List Value), us.length = p_folds_of.length → bindArgs (PySem.W.fnOf "folds_of" "folds_of" (defArgs s_folds_of) (defBody s_folds_of) (defScope s_folds_of) .none kV doc pm an cdv ct) ⟨us, []⟩ = pure (p_folds_of.zip us) := fun _ _ _ _ _ _ us hl => match us, hl with | [_], _ => rfl
theorem bn_best_fold : ∀ (kV doc pm : Value) (an : Option Addr) (cdv ct : Value) (us : List Value), us.length = p_best_fold.length → bindArgs (PySem.W.fnOf "best_fold" "best_fold" (defArgs s_best_fold) (defBody s_best_fold) (defScope s_best_fold) .none kV doc pm an cdv ct) ⟨us, []⟩ = pure (p_best_fold.zip us) := fun _ _ _ _ _ _ us hl => match us, hl with | [_, _, _, _], _ => rfl
theorem bn_need_short : ∀ (kV doc pm : Value) (an : Option Addr) (cdv ct : Value) (us : List Value), us.length = p_need_short.length → bindArgs (PySem.W.fnOf "need_short" "need_short" (defArgs s_need_short) (defBody s_need_short) (defScope s_need_short) .none kV doc pm an cdv ct) ⟨us, []⟩ = pure (p_need_short.zip us) := fun _ _ _ _ _ _ us hl => match us, hl with | [_], _ => rfl
theorem bn_folded : ∀ (kV doc pm : Value) (an : Option Addr) (cdv ct : Value) (us : List Value), us.length = p_folded.length → bindArgs (PySem.W.fnOf "folded" "folded" (defArgs s_folded) (defBody s_folded) (defScope s_folded) .none kV doc pm an cdv ct) ⟨us, []⟩ = pure (p_folded.zip us) := fun _ _ _ _ _ _ us hl => match us, hl with | [_], _ => rfl
theorem bn_need_room : ∀ (kV doc pm : Value) (an : Option Addr) (cdv ct : Value) (us : List Value), us.length = p_need_room.length → bindArgs (PySem.W.fnOf "need_room" "need_room" (defArgs s_need_room) (defBody s_need_room) (defScope s_need_room) .none kV doc pm an cdv ct) ⟨us, []⟩ = pure (p_need_room.zip us) := fun _ _ _ _ _ _ us hl => match us, hl with | [_, _], _ => rfl
theorem bn_is_step : ∀ (kV doc pm : Value) (an : Option Addr) (cdv ct : Value) (us : List Value), us.length = p_is_step.length → bindArgs (PySem.W.fnOf "is_step" "is_step" (defArgs s_is_step) (defBody s_is_step) (defScope s_is_step) .none kV doc pm an cdv ct) ⟨us, []⟩ = pure (p_is_step.zip us) := fun _ _ _ _ _ _ us hl => match us, hl with | [_], _ => rfl
theorem bn_loop_of : ∀ (kV doc pm : Value) (an : Option Addr) (cdv ct : Value) (us : List Value), us.length = p_loop_of.length → bindArgs (PySem.W.fnOf "loop_of" "loop_of" (defArgs s_loop_of) (defBody s_loop_of) (defScope s_loop_of) .none kV doc pm an cdv ct) ⟨us, []⟩ = pure (p_loop_of.zip us) := fun _ _ _ _ _ _ us hl => match us, hl with | [_], _ => rfl
theorem bn_walk : ∀ (kV doc pm : Value) (an : Option Addr) (cdv ct : Value) (us : List Value), us.length = p_walk.length → bindArgs (PySem.W.fnOf "walk" "walk" (defArgs s_walk) (defBody s_walk) (defScope s_walk) .none kV doc pm an cdv ct) ⟨us, []⟩ = pure (p_walk.zip us) := fun _ _ _ _ _ _ us hl => match us, hl with | [_], _ => rfl
theorem bn_need_all : ∀ (kV doc pm : Value) (an : Option Addr) (cdv ct : Value) (us : List Value), us.length = p_need_all.length → bindArgs (PySem.W.fnOf "need_all" "need_all" (defArgs s_need_all) (defBody s_need_all) (defScope s_need_all) .none kV doc pm an cdv ct) ⟨us, []⟩ = pure (p_need_all.zip us) := fun _ _ _ _ _ _ us hl => match us, hl with | [_, _, _], _ => rfl
theorem bn_trace : ∀ (kV doc pm : Value) (an : Option Addr) (cdv ct : Value) (us : List Value), us.length = p_trace.length → bindArgs (PySem.W.fnOf "trace" "trace" (defArgs s_trace) (defBody s_trace) (defScope s_trace) .none kV doc pm an cdv ct) ⟨us, []⟩ = pure (p_trace.zip us) := fun _ _ _ _ _ _ us hl => match us, hl with | [_, _, _], _ => rfl
theorem bn_taken : ∀ (kV doc pm : Value) (an : Option Addr) (cdv ct : Value) (us : List Value), us.length = p_taken.length → bindArgs (PySem.W.fnOf "_law_taken" "_law_taken" (defArgs s_taken) (defBody s_taken) (defScope s_taken) .none kV doc pm an cdv ct) ⟨us, []⟩ = pure (p_taken.zip us) := fun _ _ _ _ _ _ us hl => match us, hl with | [_, _], _ => rfl
theorem bn_pick : ∀ (kV doc pm : Value) (an : Option Addr) (cdv ct : Value) (us : List Value), us.length = p_pick.length → bindArgs (PySem.W.fnOf "_law_pick" "_law_pick" (defArgs s_pick) (defBody s_pick) (defScope s_pick) .none kV doc pm an cdv ct) ⟨us, []⟩ = pure (p_pick.zip us) := fun _ _ _ _ _ _ us hl => match us, hl with | [_, _], _ => rfl
theorem bn_any : ∀ (kV doc pm : Value) (an : Option Addr) (cdv ct : Value) (us : List Value), us.length = p_any.length → bindArgs (PySem.W.fnOf "_law_any" "_law_any" (defArgs s_any) (defBody s_any) (defScope s_any) .none kV doc pm an cdv ct) ⟨us, []⟩ = pure (p_any.zip us) := fun _ _ _ _ _ _ us hl => match us, hl with | [_], _ => rfl
theorem bn_gcd : ∀ (kV doc pm : Value) (an : Option Addr) (cdv ct : Value) (us : List Value), us.length = p_gcd.length → bindArgs (PySem.W.fnOf "_law_gcd" "_law_gcd" (defArgs s_gcd) (defBody s_gcd) (defScope s_gcd) .none kV doc pm an cdv ct) ⟨us, []⟩ = pure (p_gcd.zip us) := fun _ _ _ _ _ _ us hl => match us, hl with | [_, _], _ => rfl
theorem bn_flow : ∀ (kV doc pm : Value) (an : Option Addr) (cdv ct : Value) (us : List Value), us.length = p_flow.length → bindArgs (PySem.W.fnOf "_law_flow" "_law_flow" (defArgs s_flow) (defBody s_flow) (defScope s_flow) .none kV doc pm an cdv ct) ⟨us, []⟩ = pure (p_flow.zip us) := fun _ _ _ _ _ _ us hl => match us, hl with | [_, _, _], _ => rfl
theorem bn_ratio : ∀ (kV doc pm : Value) (an : Option Addr) (cdv ct : Value) (us : List Value), us.length = p_ratio.length → bindArgs (PySem.W.fnOf "_law_ratio" "_law_ratio" (defArgs s_ratio) (defBody s_ratio) (defScope s_ratio) .none kV doc pm an cdv ct) ⟨us, []⟩ = pure (p_ratio.zip us) := fun _ _ _ _ _ _ us hl => match us, hl with | [_, _], _ => rfl
theorem bn_joined : ∀ (kV doc pm : Value) (an : Option Addr) (cdv ct : Value) (us : List Value), us.length = p_joined.length → bindArgs (PySem.W.fnOf "_law_joined" "_law_joined" (defArgs s_joined) (defBody s_joined) (defScope s_joined) .none kV doc pm an cdv ct) ⟨us, []⟩ = pure (p_joined.zip us) := fun _ _ _ _ _ _ us hl => match us, hl with | [_, _, _], _ => rfl
theorem bn_round : ∀ (kV doc pm : Value) (an : Option Addr) (cdv ct : Value) (us : List Value), us.length = p_round.length → bindArgs (PySem.W.fnOf "_law_round" "_law_round" (defArgs s_round) (defBody s_round) (defScope s_round) .none kV doc pm an cdv ct) ⟨us, []⟩ = pure (p_round.zip us) := fun _ _ _ _ _ _ us hl => match us, hl with | [_], _ => rfl
theorem bn_some : ∀ (kV doc pm : Value) (an : Option Addr) (cdv ct : Value) (us : List Value), us.length = p_some.length → bindArgs (PySem.W.fnOf "_law_some" "_law_some" (defArgs s_some) (defBody s_some) (defScope s_some) .none kV doc pm an cdv ct) ⟨us, []⟩ = pure (p_some.zip us) := fun _ _ _ _ _ _ us hl => match us, hl with | [_], _ => rfl
theorem bn_can : ∀ (kV doc pm : Value) (an : Option Addr) (cdv ct : Value) (us : List Value), us.length = p_can.length → bindArgs (PySem.W.fnOf "_law_can" "_law_can" (defArgs s_can) (defBody s_can) (defScope s_can) .none kV doc pm an cdv ct) ⟨us, []⟩ = pure (p_can.zip us) := fun _ _ _ _ _ _ us hl => match us, hl with | [_, _, _], _ => rfl
theorem bn_next : ∀ (kV doc pm : Value) (an : Option Addr) (cdv ct : Value) (us : List Value), us.length = p_next.length → bindArgs (PySem.W.fnOf "_law_next" "_law_next" (defArgs s_next) (defBody s_next) (defScope s_next) .none kV doc pm an cdv ct) ⟨us, []⟩ = pure (p_next.zip us) := fun _ _ _ _ _ _ us hl => match us, hl with | [_, _, _], _ => rfl
theorem bn_do : ∀ (kV doc pm : Value) (an : Option Addr) (cdv ct : Value) (us : List Value), us.length = p_do.length → bindArgs (PySem.W.fnOf "_law_do" "_law_do" (defArgs s_do) (defBody s_do) (defScope s_do) .none kV doc pm an cdv ct) ⟨us, []⟩ = pure (p_do.zip us) := fun _ _ _ _ _ _ us hl => match us, hl with | [_, _], _ => rfl
theorem bn_with : ∀ (kV doc pm : Value) (an : Option Addr) (cdv ct : Value) (us : List Value), us.length = p_with.length → bindArgs (PySem.W.fnOf "_law_with" "_law_with" (defArgs s_with) (defBody s_with) (defScope s_with) .none kV doc pm an cdv ct) ⟨us, []⟩ = pure (p_with.zip us) := fun _ _ _ _ _ _ us hl => match us, hl with | [_, _], _ => rfl
theorem bn_live : ∀ (kV doc pm : Value) (an : Option Addr) (cdv ct : Value) (us : List Value), us.length = p_live.length → bindArgs (PySem.W.fnOf "_law_live" "_law_live" (defArgs s_live) (defBody s_live) (defScope s_live) .none kV doc pm an cdv ct) ⟨us, []⟩ = pure (p_live.zip us) := fun _ _ _ _ _ _ us hl => match us, hl with | [_, _, _], _ => rfl
theorem bn_word : ∀ (kV doc pm : Value) (an : Option Addr) (cdv ct : Value) (us : List Value), us.length = p_word.length → bindArgs (PySem.W.fnOf "_law_word" "_law_word" (defArgs s_word) (defBody s_word) (defScope s_word) .none kV doc pm an cdv ct) ⟨us, []⟩ = pure (p_word.zip us) := fun _ _ _ _ _ _ us hl => match us, hl with | [_, _, _], _ => rfl
theorem bn_loop : ∀ (kV doc pm : Value) (an : Option Addr) (cdv ct : Value) (us : List Value), us.length = p_loop.length → bindArgs (PySem.W.fnOf "_law_loop" "_law_loop" (defArgs s_loop) (defBody s_loop) (defScope s_loop) .none kV doc pm an cdv ct) ⟨us, []⟩ = pure (p_loop.zip us) := fun _ _ _ _ _ _ us hl => match us, hl with | [_, _, _], _ => rfl
theorem bn_unrolled : ∀ (kV doc pm : Value) (an : Option Addr) (cdv ct : Value) (us : List Value), us.length = p_unrolled.length → bindArgs (PySem.W.fnOf "_law_unrolled" "_law_unrolled" (defArgs s_unrolled) (defBody s_unrolled) (defScope s_unrolled) .none kV doc pm an cdv ct) ⟨us, []⟩ = pure (p_unrolled.zip us) := fun _ _ _ _ _ _ us hl => match us, hl with | [_], _ => rfl
theorem bn_code : ∀ (kV doc pm : Value) (an : Option Addr) (cdv ct : Value) (us : List Value), us.length = p_code.length → bindArgs (PySem.W.fnOf "_law_code" "_law_code" (defArgs s_code) (defBody s_code) (defScope s_code) .none kV doc pm an cdv ct) ⟨us, []⟩ = pure (p_code.zip us) := fun _ _ _ _ _ _ us hl => match us, hl with | [_], _ => rfl
theorem bn_peaks : ∀ (kV doc pm : Value) (an : Option Addr) (cdv ct : Value) (us : List Value), us.length = p_peaks.length → bindArgs (PySem.W.fnOf "_law_peaks" "_law_peaks" (defArgs s_peaks) (defBody s_peaks) (defScope s_peaks) .none kV doc pm an cdv ct) ⟨us, []⟩ = pure (p_peaks.zip us) := fun _ _ _ _ _ _ us hl => match us, hl with | [_, _], _ => rfl
theorem bn_room : ∀ (kV doc pm : Value) (an : Option Addr) (cdv ct : Value) (us : List Value), us.length = p_room.length → bindArgs (PySem.W.fnOf "_law_room" "_law_room" (defArgs s_room) (defBody s_room) (defScope s_room) .none kV doc pm an cdv ct) ⟨us, []⟩ = pure (p_room.zip us) := fun _ _ _ _ _ _ us hl => match us, hl with | [_, _, _], _ => rfl
theorem bn_cells : ∀ (kV doc pm : Value) (an : Option Addr) (cdv ct : Value) (us : List Value), us.length = p_cells.length → bindArgs (PySem.W.fnOf "_law_cells" "_law_cells" (defArgs s_cells) (defBody s_cells) (defScope s_cells) .none kV doc pm an cdv ct) ⟨us, []⟩ = pure (p_cells.zip us) := fun _ _ _ _ _ _ us hl => match us, hl with | [_, _, _], _ => rfl
theorem bn_alike : ∀ (kV doc pm : Value) (an : Option Addr) (cdv ct : Value) (us : List Value), us.length = p_alike.length → bindArgs (PySem.W.fnOf "_law_alike" "_law_alike" (defArgs s_alike) (defBody s_alike) (defScope s_alike) .none kV doc pm an cdv ct) ⟨us, []⟩ = pure (p_alike.zip us) := fun _ _ _ _ _ _ us hl => match us, hl with | [_, _], _ => rfl
theorem bn_law : ∀ (kV doc pm : Value) (an : Option Addr) (cdv ct : Value) (us : List Value), us.length = p_law.length → bindArgs (PySem.W.fnOf "law" "law" (defArgs s_law) (defBody s_law) (defScope s_law) .none kV doc pm an cdv ct) ⟨us, []⟩ = pure (p_law.zip us) := fun _ _ _ _ _ _ us hl => match us, hl with | [_], _ => rfl
theorem bn_Cells_init : ∀ (kV doc pm : Value) (an : Option Addr) (cdv ct : Value) (us : List Value), us.length = p_Cells_init.length → bindArgs (PySem.W.fnOf "__init__" "Cells.__init__" (defArgs s_Cells_init) (defBody s_Cells_init) (defScope s_Cells_init) .none kV doc pm an cdv ct) ⟨us, []⟩ = pure (p_Cells_init.zip us) := fun _ _ _ _ _ _ us hl => match us, hl with | [_, _, _], _ => rfl
theorem bn_Cells_fire : ∀ (kV doc pm : Value) (an : Option Addr) (cdv ct : Value) (us : List Value), us.length = p_Cells_fire.length → bindArgs (PySem.W.fnOf "fire" "Cells.fire" (defArgs s_Cells_fire) (defBody s_Cells_fire) (defScope s_Cells_fire) .none kV doc pm an cdv ct) ⟨us, []⟩ = pure (p_Cells_fire.zip us) := fun _ _ _ _ _ _ us hl => match us, hl with | [_, _], _ => rfl
/-- all defs of the text -/
structure Dfs (K : PySem.W.Frag) (mg : Str → Option Value) : Prop where
  d_is_in : Df K mg "is_in" s_is_in p_is_in
  d_is_pipe : Df K mg "is_pipe" s_is_pipe p_is_pipe
  d_need_flow : Df K mg "need_flow" s_need_flow p_need_flow
  d_marks_in : Df K mg "marks_in" s_marks_in p_marks_in
  d_lacks : Df K mg "lacks" s_lacks p_lacks
  d_behind : Df K mg "behind" s_behind p_behind
  d_size_of : Df K mg "size_of" s_size_of p_size_of
  d_deep_in : Df K mg "deep_in" s_deep_in p_deep_in
  d_folds_of : Df K mg "folds_of" s_folds_of p_folds_of
  d_best_fold : Df K mg "best_fold" s_best_fold p_best_fold
  d_need_short : Df K mg "need_short" s_need_short p_need_short
  d_folded : Df K mg "folded" s_folded p_folded
  d_need_room : Df K mg "need_room" s_need_room p_need_room
  d_is_step : Df K mg "is_step" s_is_step p_is_step
  d_loop_of : Df K mg "loop_of" s_loop_of p_loop_of
  d_walk : Df K mg "walk" s_walk p_walk
  d_need_all : Df K mg "need_all" s_need_all p_need_all
  d_trace : Df K mg "trace" s_trace p_trace
  d_taken : Df K mg "_law_taken" s_taken p_taken
  d_pick : Df K mg "_law_pick" s_pick p_pick
  d_any : Df K mg "_law_any" s_any p_any
  d_gcd : Df K mg "_law_gcd" s_gcd p_gcd
  d_flow : Df K mg "_law_flow" s_flow p_flow
  d_ratio : Df K mg "_law_ratio" s_ratio p_ratio
  d_joined : Df K mg "_law_joined" s_joined p_joined
  d_round : Df K mg "_law_round" s_round p_round
  d_some : Df K mg "_law_some" s_some p_some
  d_can : Df K mg "_law_can" s_can p_can
  d_next : Df K mg "_law_next" s_next p_next
  d_do : Df K mg "_law_do" s_do p_do
  d_with : Df K mg "_law_with" s_with p_with
  d_live : Df K mg "_law_live" s_live p_live
  d_word : Df K mg "_law_word" s_word p_word
  d_loop : Df K mg "_law_loop" s_loop p_loop
  d_unrolled : Df K mg "_law_unrolled" s_unrolled p_unrolled
  d_code : Df K mg "_law_code" s_code p_code
  d_peaks : Df K mg "_law_peaks" s_peaks p_peaks
  d_room : Df K mg "_law_room" s_room p_room
  d_cells : Df K mg "_law_cells" s_cells p_cells
  d_alike : Df K mg "_law_alike" s_alike p_alike
  n_MOST_BOXES : Cn mg "MOST_BOXES" 8
  n_MOST_DEEP : Cn mg "MOST_DEEP" 8
  n_MOST_FOLDED : Cn mg "MOST_FOLDED" 24
  n_MOST_LONG : Cn mg "MOST_LONG" 2000
  n_MOST_PIPES : Cn mg "MOST_PIPES" 16
  n_MOST_RATE : Cn mg "MOST_RATE" 999
  n_MOST_TIMES : Cn mg "MOST_TIMES" 999
  n_MOST_TOKENS : Cn mg "MOST_TOKENS" 99999
theorem law_ok {base : Heap} {C fI fF B fB FE f0 : Addr} {fdI fdF fd0 : FuncData} (T : Tx mg) (D : Dfs K mg) (TC : ClTxt K C) (mgC : mg "Cells" = some (.ref C)) (MC : Mk K C fI) (FI : Fun K "__init__" "Cells.__init__" s_Cells_init fI fdI) (bI : Binds K fdI p_Cells_init [])
    (mF : Meth K C "fire" fF) (FF : Fun K "fire" "Cells.fire" s_Cells_fire fF fdF) (bF : Binds K fdF p_Cells_fire []) (TB : PySem.BwX.BwTxt P K mg B fB) (BI : BwIs K B) (gF : mg "FlowError" = some (.ref FE)) (xF : PySem.W.exmOne K (.ref B) (.ref FE) = some true)
    (F0 : Fun K "law" "law" s_law f0 fd0) : FnOk P w K mg base CX0 14 f0 fd0 p_law (spLaw K) := by
  have c_taken := ok_taken (P := P) (w := w) (base := base) D.d_taken T 
  have c_some := ok_some (P := P) (w := w) (base := base) D.d_some T 
  have c_can := ok_can (P := P) (w := w) (base := base) D.d_can T 
  have c_next := ok_next (P := P) (w := w) (base := base) D.d_next T 
  have c_with := ok_with (P := P) (w := w) (base := base) D.d_with T 
  have c_pick := ok_pick (P := P) (w := w) (base := base) D.d_pick T c_taken
  have c_gcd := ok_gcd (P := P) (w := w) (base := base) D.d_gcd T 
  have c_ratio := ok_ratio (P := P) (w := w) (base := base) D.d_ratio T c_gcd
  have c_any := ok_any (P := P) (w := w) (base := base) D.d_any T c_taken
  have c_flow := ok_flow (P := P) (w := w) (base := base) D.d_flow T c_taken c_pick c_gcd
  have c_joined := ok_joined (P := P) (w := w) (base := base) D.d_joined T 
  have c_round := ok_round (P := P) (w := w) (base := base) D.d_round T c_gcd c_ratio c_joined
  have c_do := ok_do (P := P) (w := w) (base := base) D.d_do T c_some c_can c_next
  have c_live := ok_live (P := P) (w := w) (base := base) D.d_live T c_flow c_round c_do c_pick c_some c_with
  have c_word := ok_word (P := P) (w := w) (base := base) D.d_word T c_some c_can c_next c_pick c_taken
  have c_peaks := ok_peaks (P := P) (w := w) (base := base) D.d_peaks T c_some c_next
  have c_room := ok_room (P := P) (w := w) (base := base) D.d_room T c_taken
  have c_cells := ok_cells (P := P) (w := w) (base := base) D.d_cells T c_some c_can c_next
  have c_is_in := ok_is_in (P := P) (w := w) (base := base) D.d_is_in T 
  have c_is_pipe := ok_is_pipe (P := P) (w := w) (base := base) D.d_is_pipe T c_is_in D.n_MOST_RATE D.n_MOST_TOKENS
  have c_need_flow := ok_need_flow (P := P) (w := w) (base := base) D.d_need_flow T c_is_in c_is_pipe D.n_MOST_BOXES D.n_MOST_PIPES
  have c_marks_in := ok_marks_in (P := P) (w := w) (base := base) D.d_marks_in T 
  have c_lacks := ok_lacks (P := P) (w := w) (base := base) D.d_lacks T 
  have c_behind := ok_behind (P := P) (w := w) (base := base) D.d_behind T 
  have c_need_room := ok_need_room (P := P) (w := w) (base := base) D.d_need_room T c_is_in D.n_MOST_TOKENS
  have c_is_step := ok_is_step (P := P) (w := w) (base := base) D.d_is_step T c_is_in D.n_MOST_BOXES D.n_MOST_TIMES
  have c_need_short := ok_need_short (P := P) (w := w) (base := base) D.d_need_short T c_is_in D.n_MOST_BOXES D.n_MOST_FOLDED
  have c_walk := ok_walk (P := P) (w := w) (base := base) D.d_walk T 
  have c_loop := ok_law_loop (P := P) (w := w) (base := base) D.d_loop T c_taken 2 (by decide)
  have c_unrolled := ok_law_unrolled (P := P) (w := w) (base := base) D.d_unrolled T 8
  have c_code := ok_law_code (P := P) (w := w) (base := base) D.d_code T 8
  have c_alike := ok_law_alike (P := P) (w := w) (base := base) D.d_alike T 4
  have c_size_of := ok_size_of (P := P) (w := w) (base := base) D.d_size_of T c_is_in D.n_MOST_BOXES D.n_MOST_TIMES D.n_MOST_LONG 8
  have c_deep_in := ok_deep_in (P := P) (w := w) (base := base) D.d_deep_in T 8
  have c_best_fold := ok_best_fold (P := P) (w := w) (base := base) D.d_best_fold T c_deep_in D.n_MOST_TIMES D.n_MOST_DEEP
  have c_folds_of := ok_folds_of (P := P) (w := w) (base := base) D.d_folds_of T c_best_fold
  have c_folded := ok_folded (P := P) (w := w) (base := base) D.d_folded T c_need_short c_folds_of
  have c_loop_of := ok_loop_of (P := P) (w := w) (base := base) D.d_loop_of T c_is_step c_size_of D.n_MOST_DEEP
  have c_need_all := ok_need_all (P := P) (w := w) (base := base) D.d_need_all T c_need_flow c_loop_of c_need_room
  have GI : FnOk P w K mg base CX0 2 fI fdI p_Cells_init (spCInit C) := ok_cinit FI T TC c_marks_in
  have GF : FnOk P w K mg base CX0 2 fF fdF p_Cells_fire (spFire C) := ok_fire FF T TC c_lacks c_behind
  have c_trace := ok_trace D.d_trace T TC mgC MC GI bI mF GF bF TB c_need_all c_walk
  exact ok_law F0 T TB BI ⟨TB.ga, TB.gg, TB.exC, TB.hdC⟩ gF xF c_pick c_any c_live c_word c_folded c_taken c_loop c_unrolled c_code c_peaks c_room c_cells c_trace c_alike
theorem walk_it {l : PySem.W.OpenLaw} {q : Program} {loose : List Str} {XP : (Str → Option Value) → Heap → Prop} {YP : World → Heap → Prop} {d : DefRec} {K : Params → PySem.W.Frag} (hn : l.most = some 63) (hdf : d.params.defaults = [])
    (hY : ∀ (w : World) (h : Heap), YP w h → (K w.params).In h)
    (F : ∀ (w : World) (mg : Str → Option Value) (fa : Addr) (h : Heap), (K w.params).In h → h.Ns mainGlobals mg → mg d.name = some (.ref fa) →
      ∃ fd : FuncData, (∀ (s : Shared) (u : Value), BindsTo s fd ⟨[u], []⟩ [("_law_script", u)]) ∧ ∀ base : Heap, (K w.params).In base → base.Ns mainGlobals mg → FnOk l.prog w (K w.params) mg base CX0 14 fa fd ["_law_script"] (spLaw (K w.params))) :
    PySem.W.WalkO q loose XP YP l.row.toRowW d [] (fun f vs => PySem.call f vs) :=
  L2.walk_of (n := 63) (k := 14) (x := "_law_script") (CX := fun _ => CX0) (sp := fun w => spLaw (K w.params)) hn (by decide) hdf ⟨rfl, by decide, by decide⟩ hY F (fun _ _ a ns hl _ hS => ⟨a, ns, rfl, hS, hl, fun _ => rfl⟩) fun _ _ _ _ _ z => z
abbrev theLaw : PySem.W.OpenLaw := PySem.Challenge.rw_rateflows_k55_whole_cells
theorem all_mk {mg : Str → Option Value} {C fI fF B fB FE fa f0 cda cc : Addr} (X : K.In h) (G : h.Ns mainGlobals mg) (hfa : mg "law" = some (.ref fa)) (T : Tx mg) (D : Dfs K mg)
    {od0 an0 od1 an1 od2 an2 odB anB : Option Addr} {sl0 sl1 sl2 slB : Array (Option Value)} {oc0 kV0 dc0 pm0 cd0 ct0 oc1 kV1 dc1 pm1 cd1 ct1 oc2 kV2 dc2 pm2 cd2 ct2 ocB dcB pmB ctB : Value}
    {nm q : Str} {N : Addr} {bs bm : List Value} {sn : List Str} {sub : List Value} {ab : Bool} {col : Option Bool} {dd : Option Addr} {k0 k1 k2 k3 k5 : Option Value}
    {ccl : Value} {cdd : Option Addr} {vs : Array Value} {ccs : Array (Option Value)} {file : Str} {tf : Tok} {cl : Value} {cld : Option Addr} {csl : Array (Option Value)}
    (a0 : PySem.W.nsIn K mainGlobals "law" = some (some (.ref f0))) (l0 : K.lookup f0 = some ⟨oc0, od0, .func (PySem.W.fnOf "law" "law" (defArgs s_law) (defBody s_law) (defScope s_law) .none kV0 dc0 pm0 an0 cd0 ct0), sl0⟩) (c0 : PySem.W.codeIn K cd0 "law" = true) (g0 : PySem.W.keepIn K (.ref f0) = true)
    (aC : PySem.W.nsIn K mainGlobals "Cells" = some (some (.ref C)))
    (a1 : PySem.W.findIn K (.ref C) "__init__" = some (some (.ref fI))) (i1 : PySem.W.isFn K (.ref fI) = true) (l1 : K.lookup fI = some ⟨oc1, od1, .func (PySem.W.fnOf "__init__" "Cells.__init__" (defArgs s_Cells_init) (defBody s_Cells_init) (defScope s_Cells_init) .none kV1 dc1 pm1 an1 cd1 ct1), sl1⟩) (c1 : PySem.W.codeIn K cd1 "Cells.__init__" = true) (g1 : PySem.W.keepIn K (.ref fI) = true)
    (a2 : PySem.W.findIn K (.ref C) "fire" = some (some (.ref fF))) (i2 : PySem.W.isFn K (.ref fF) = true) (l2 : K.lookup fF = some ⟨oc2, od2, .func (PySem.W.fnOf "fire" "Cells.fire" (defArgs s_Cells_fire) (defBody s_Cells_fire) (defScope s_Cells_fire) .none kV2 dc2 pm2 an2 cd2 ct2), sl2⟩) (c2 : PySem.W.codeIn K cd2 "Cells.fire" = true) (g2 : PySem.W.keepIn K (.ref fF) = true)
    (pg : PySem.W.plainGet K C Str.empty = true) (hd : PySem.W.hasDictIn K C = true) (po : PySem.W.plainOver K C = true) (sa : PySem.W.findIn K (.ref C) "__setattr__" = some (some (.builtin "object.__setattr__"))) (mk : PySem.W.makesIn K C = true) (kc : PySem.W.keepIn K (.ref C) = true)
    (nF : PySem.W.findIn K (.ref C) "flow" = some none) (nR : PySem.W.findIn K (.ref C) "room" = some none) (nS : PySem.W.findIn K (.ref C) "some" = some none) (nH : PySem.W.findIn K (.ref C) "heads" = some none)
    (aE : PySem.W.nsIn K mainGlobals "FlowError" = some (some (.ref FE))) (eE : PySem.W.subIn K (.ref FE) (.type "BaseException") = some true) (hE : PySem.W.hasDictIn K FE = true) (tE : PySem.W.typeIn K (.ref FE) = some (.type "type"))
    (aB : PySem.W.nsIn K mainGlobals "BadWord" = some (some (.ref B))) (xB : K.lookup B = some (excClassObj nm q B N bs bm true sn sub ab col dd k0 k1 k2 k3 k5 "ValueError.__new__")) (rB : PySem.HandSPX.refsVE bm = true) (uB : PySem.W.excTail PySem.BwX.veB bm = true)
    (saB : PySem.W.findIn K (.ref B) "__setattr__" = some (some (.builtin "object.__setattr__"))) (gaB : PySem.W.findIn K (.ref B) "__getattribute__" = some (some (.builtin "BaseException.__getattribute__"))) (ggB : PySem.W.findIn K (.ref B) "__getattr__" = some none) (nB : PySem.W.findIn K (.ref B) "index" = some none)
    (iB : PySem.W.findIn K (.ref B) "__init__" = some (some (.ref fB))) (tfB : PySem.W.typeIn K (.ref fB) = some (.type "function")) (kB : PySem.W.keepIn K (.ref B) = true) (eB : PySem.W.subIn K (.ref B) (.type "BaseException") = some true) (vB : PySem.W.subIn K (.ref B) (.type "ValueError") = some true)
    (tB : PySem.W.typeIn K (.ref B) = some (.type "type")) (hB : PySem.W.hasDictIn K B = true) (oB : PySem.W.mroIn K B (.ref B) = some true) (suB : PySem.W.ks_superIn K B B "__init__" = some (some (.builtin "ValueError.__init__"))) (opq : PySem.W.nsIn K cStatics "thirdparty.any" = some none) (zS : PySem.W.nsIn K mainGlobals "super" = some none)
    (lB : K.lookup fB = some ⟨ocB, odB, .func (PySem.W.ksFn "__init__" "BadWord.__init__" (defArgs PySem.BwX.sI) (defBody PySem.BwX.sI) (defScope PySem.BwX.sI) .none .none dcB pmB anB (.ref cda) ctB cc), slB⟩) (cB : PySem.W.codeIn K (.ref cda) "BadWord.__init__" = true)
    (lc : K.lookup cda = some ⟨ccl, cdd, .fields vs, ccs⟩) (lv : vs[2]? = some (.str file tf)) (lf : ((theLaw.prog.main.file : Str) == file) = true) (ce : K.lookup cc = some ⟨cl, cld, .cell (some (.ref B)), csl⟩)
    (sBF : PySem.W.subIn K (.ref B) (.ref FE) = some true) (icB : PySem.W.isClsIn K B = true) (clB : PySem.W.findIn K (.ref B) "__class__" = some (some (.builtin "object.__class__"))) (spB : PySem.W.specialIn K (.builtin "object.__class__") "__get__" = some (some (.builtin "getset_descriptor.__get__"))) (tkB : PySem.W.takesIn K (.builtin "object.__class__") = some true) (moB : PySem.W.mroIn K B (.type "object") = some true) :
    ∃ fd : FuncData, (∀ (s : Shared) (u : Value), BindsTo s fd ⟨[u], []⟩ [("_law_script", u)]) ∧ ∀ base : Heap, K.In base → base.Ns mainGlobals mg → FnOk theLaw.prog w K mg base CX0 14 fa fd ["_law_script"] (spLaw K) := by
  have e := hfa.symm.trans (PySem.W.mg_of X G a0)
  cases e
  have F1 := fun_mk (st := s_Cells_init) l1 c1 g1
  have F2 := fun_mk (st := s_Cells_fire) l2 c2 g2
  have TB : PySem.BwX.BwTxt theLaw.prog K mg B fB :=
    { gC := PySem.W.mg_of X G aB, cls := ⟨nm, q, N, bs, bm, sn, sub, ab, col, dd, k0, k1, k2, k3, k5, xB, rB, uB⟩, sa := saB, ga := gaB, gg := ggB, noN := nB, iC := iB, tC := tfB, kC := kB, exC := eB, veC := vB, tyC := tB, hdC := hB, own := oB, sup := suB, opq := opq, zS := PySem.W.mg_none_of X G zS, top := by decide +kernel,
      fn := ⟨_, _, _, _, _, _, _, _, _, _, _, _, _, _, _, _, _, _, lB, cB, lc, lv, lf, ce⟩ }
  have BI : BwIs K B := ⟨icB, gaB, ggB, eB, clB, spB, tkB, moB, by unfold PySem.W.kitOne; rw [if_pos (beq_self_eq_true _)]⟩
  exact ⟨PySem.W.fnOf "law" "law" (defArgs s_law) (defBody s_law) (defScope s_law) .none kV0 dc0 pm0 an0 cd0 ct0, fun s u => .of_eq rfl, fun base _ _ =>
    law_ok T D ⟨⟨pg, hd, po, sa⟩, nF, nR, nS, nH⟩ (PySem.W.mg_of X G aC) ⟨mk, a1, i1, kc⟩ F1 (F1.binds bn_Cells_init) ⟨a2, i2, g2⟩ F2 (F2.binds bn_Cells_fire) TB BI (PySem.W.mg_of X G aE) (PySem.W.exm_ref eE hE tE sBF) (fun_mk (st := s_law) l0 c0 g0)⟩
end
end Rf
open PySem PySem.W PyProof.Rows
set_option maxRecDepth 100000 in
set_option maxHeartbeats 0 in
theorem PySem.Challenge.cw_rateflows_k55_whole_cells_holds : PySem.Challenge.rw_rateflows_k55_whole_cells.Holds := by
  w_on; o_law; k_head; (case hw => w_witness2)
  k_fill
  refine Rf.walk_it (l := PySem.Challenge.rw_rateflows_k55_whole_cells) rfl rfl (fun w h Y => PySem.W.kIn_of Y) ?F
  case F =>
    intro w mg fa h KX G hmg
    refine' Rf.all_mk KX G hmg ?y_T ?y_D ?y_a0 ?y_l0 ?y_c0 ?y_g0 ?y_aC ?y_a1 ?y_i1 ?y_l1 ?y_c1 ?y_g1 ?y_a2 ?y_i2 ?y_l2 ?y_c2 ?y_g2 ?y_pg ?y_hd ?y_po ?y_sa ?y_mk ?y_kc ?y_nF ?y_nR ?y_nS ?y_nH ?y_aE ?y_eE ?y_hE ?y_tE ?y_aB ?y_xB ?y_rB ?y_uB ?y_saB ?y_gaB ?y_ggB ?y_nB ?y_iB ?y_tfB ?y_kB ?y_eB ?y_vB ?y_tB ?y_hB ?y_oB ?y_suB ?y_opq ?y_zS ?y_lB ?y_cB ?y_lc ?y_lv ?y_lf ?y_ce ?y_sBF ?y_icB ?y_clB ?y_spB ?y_tkB ?y_moB
    case y_T =>
      refine' Rf.tx_mk KX G ?z_len ?z_range ?z_isinstance ?z_int ?z_bool ?z_tuple ?z_list ?z_str ?z_enumerate ?z_max ?z_abs ?z_sum
      (case z_len => k_is)
      (case z_range => k_is)
      (case z_isinstance => k_is)
      (case z_int => k_is)
      (case z_bool => k_is)
      (case z_tuple => k_is)
      (case z_list => k_is)
      (case z_str => k_is)
      (case z_enumerate => k_is)
      (case z_max => k_is)
      (case z_abs => k_is)
      (case z_sum => k_is)
    case y_D =>
      refine' ⟨?d_is_in, ?d_is_pipe, ?d_need_flow, ?d_marks_in, ?d_lacks, ?d_behind, ?d_size_of, ?d_deep_in, ?d_folds_of, ?d_best_fold, ?d_need_short, ?d_folded, ?d_need_room, ?d_is_step, ?d_loop_of, ?d_walk, ?d_need_all, ?d_trace, ?d_taken, ?d_pick, ?d_any, ?d_gcd, ?d_flow, ?d_ratio, ?d_joined, ?d_round, ?d_some, ?d_can, ?d_next, ?d_do, ?d_with, ?d_live, ?d_word, ?d_loop, ?d_unrolled, ?d_code, ?d_peaks, ?d_room, ?d_cells, ?d_alike, ?n_MOST_BOXES, ?n_MOST_DEEP, ?n_MOST_FOLDED, ?n_MOST_LONG, ?n_MOST_PIPES, ?n_MOST_RATE, ?n_MOST_TIMES, ?n_MOST_TOKENS⟩
      (case d_is_in => refine' Rf.df_mk KX G Rf.bn_is_in ?a ?l ?c ?k; (case a => k_is); (case l => k_is); (case c => k_is); (case k => k_is))
      (case d_is_pipe => refine' Rf.df_mk KX G Rf.bn_is_pipe ?a ?l ?c ?k; (case a => k_is); (case l => k_is); (case c => k_is); (case k => k_is))
      (case d_need_flow => refine' Rf.df_mk KX G Rf.bn_need_flow ?a ?l ?c ?k; (case a => k_is); (case l => k_is); (case c => k_is); (case k => k_is))
      (case d_marks_in => refine' Rf.df_mk KX G Rf.bn_marks_in ?a ?l ?c ?k; (case a => k_is); (case l => k_is); (case c => k_is); (case k => k_is))
      (case d_lacks => refine' Rf.df_mk KX G Rf.bn_lacks ?a ?l ?c ?k; (case a => k_is); (case l => k_is); (case c => k_is); (case k => k_is))
      (case d_behind => refine' Rf.df_mk KX G Rf.bn_behind ?a ?l ?c ?k; (case a => k_is); (case l => k_is); (case c => k_is); (case k => k_is))
      (case d_size_of => refine' Rf.df_mk KX G Rf.bn_size_of ?a ?l ?c ?k; (case a => k_is); (case l => k_is); (case c => k_is); (case k => k_is))
      (case d_deep_in => refine' Rf.df_mk KX G Rf.bn_deep_in ?a ?l ?c ?k; (case a => k_is); (case l => k_is); (case c => k_is); (case k => k_is))
      (case d_folds_of => refine' Rf.df_mk KX G Rf.bn_folds_of ?a ?l ?c ?k; (case a => k_is); (case l => k_is); (case c => k_is); (case k => k_is))
      (case d_best_fold => refine' Rf.df_mk KX G Rf.bn_best_fold ?a ?l ?c ?k; (case a => k_is); (case l => k_is); (case c => k_is); (case k => k_is))
      (case d_need_short => refine' Rf.df_mk KX G Rf.bn_need_short ?a ?l ?c ?k; (case a => k_is); (case l => k_is); (case c => k_is); (case k => k_is))
      (case d_folded => refine' Rf.df_mk KX G Rf.bn_folded ?a ?l ?c ?k; (case a => k_is); (case l => k_is); (case c => k_is); (case k => k_is))
      (case d_need_room => refine' Rf.df_mk KX G Rf.bn_need_room ?a ?l ?c ?k; (case a => k_is); (case l => k_is); (case c => k_is); (case k => k_is))
      (case d_is_step => refine' Rf.df_mk KX G Rf.bn_is_step ?a ?l ?c ?k; (case a => k_is); (case l => k_is); (case c => k_is); (case k => k_is))
      (case d_loop_of => refine' Rf.df_mk KX G Rf.bn_loop_of ?a ?l ?c ?k; (case a => k_is); (case l => k_is); (case c => k_is); (case k => k_is))
      (case d_walk => refine' Rf.df_mk KX G Rf.bn_walk ?a ?l ?c ?k; (case a => k_is); (case l => k_is); (case c => k_is); (case k => k_is))
      (case d_need_all => refine' Rf.df_mk KX G Rf.bn_need_all ?a ?l ?c ?k; (case a => k_is); (case l => k_is); (case c => k_is); (case k => k_is))
      (case d_trace => refine' Rf.df_mk KX G Rf.bn_trace ?a ?l ?c ?k; (case a => k_is); (case l => k_is); (case c => k_is); (case k => k_is))
      (case d_taken => refine' Rf.df_mk KX G Rf.bn_taken ?a ?l ?c ?k; (case a => k_is); (case l => k_is); (case c => k_is); (case k => k_is))
      (case d_pick => refine' Rf.df_mk KX G Rf.bn_pick ?a ?l ?c ?k; (case a => k_is); (case l => k_is); (case c => k_is); (case k => k_is))
      (case d_any => refine' Rf.df_mk KX G Rf.bn_any ?a ?l ?c ?k; (case a => k_is); (case l => k_is); (case c => k_is); (case k => k_is))
      (case d_gcd => refine' Rf.df_mk KX G Rf.bn_gcd ?a ?l ?c ?k; (case a => k_is); (case l => k_is); (case c => k_is); (case k => k_is))
      (case d_flow => refine' Rf.df_mk KX G Rf.bn_flow ?a ?l ?c ?k; (case a => k_is); (case l => k_is); (case c => k_is); (case k => k_is))
      (case d_ratio => refine' Rf.df_mk KX G Rf.bn_ratio ?a ?l ?c ?k; (case a => k_is); (case l => k_is); (case c => k_is); (case k => k_is))
      (case d_joined => refine' Rf.df_mk KX G Rf.bn_joined ?a ?l ?c ?k; (case a => k_is); (case l => k_is); (case c => k_is); (case k => k_is))
      (case d_round => refine' Rf.df_mk KX G Rf.bn_round ?a ?l ?c ?k; (case a => k_is); (case l => k_is); (case c => k_is); (case k => k_is))
      (case d_some => refine' Rf.df_mk KX G Rf.bn_some ?a ?l ?c ?k; (case a => k_is); (case l => k_is); (case c => k_is); (case k => k_is))
      (case d_can => refine' Rf.df_mk KX G Rf.bn_can ?a ?l ?c ?k; (case a => k_is); (case l => k_is); (case c => k_is); (case k => k_is))
      (case d_next => refine' Rf.df_mk KX G Rf.bn_next ?a ?l ?c ?k; (case a => k_is); (case l => k_is); (case c => k_is); (case k => k_is))
      (case d_do => refine' Rf.df_mk KX G Rf.bn_do ?a ?l ?c ?k; (case a => k_is); (case l => k_is); (case c => k_is); (case k => k_is))
      (case d_with => refine' Rf.df_mk KX G Rf.bn_with ?a ?l ?c ?k; (case a => k_is); (case l => k_is); (case c => k_is); (case k => k_is))
      (case d_live => refine' Rf.df_mk KX G Rf.bn_live ?a ?l ?c ?k; (case a => k_is); (case l => k_is); (case c => k_is); (case k => k_is))
      (case d_word => refine' Rf.df_mk KX G Rf.bn_word ?a ?l ?c ?k; (case a => k_is); (case l => k_is); (case c => k_is); (case k => k_is))
      (case d_loop => refine' Rf.df_mk KX G Rf.bn_loop ?a ?l ?c ?k; (case a => k_is); (case l => k_is); (case c => k_is); (case k => k_is))
      (case d_unrolled => refine' Rf.df_mk KX G Rf.bn_unrolled ?a ?l ?c ?k; (case a => k_is); (case l => k_is); (case c => k_is); (case k => k_is))
      (case d_code => refine' Rf.df_mk KX G Rf.bn_code ?a ?l ?c ?k; (case a => k_is); (case l => k_is); (case c => k_is); (case k => k_is))
      (case d_peaks => refine' Rf.df_mk KX G Rf.bn_peaks ?a ?l ?c ?k; (case a => k_is); (case l => k_is); (case c => k_is); (case k => k_is))
      (case d_room => refine' Rf.df_mk KX G Rf.bn_room ?a ?l ?c ?k; (case a => k_is); (case l => k_is); (case c => k_is); (case k => k_is))
      (case d_cells => refine' Rf.df_mk KX G Rf.bn_cells ?a ?l ?c ?k; (case a => k_is); (case l => k_is); (case c => k_is); (case k => k_is))
      (case d_alike => refine' Rf.df_mk KX G Rf.bn_alike ?a ?l ?c ?k; (case a => k_is); (case l => k_is); (case c => k_is); (case k => k_is))
      (case n_MOST_BOXES => refine' Rf.cn_mk KX G ?a; (case a => k_is))
      (case n_MOST_DEEP => refine' Rf.cn_mk KX G ?a; (case a => k_is))
      (case n_MOST_FOLDED => refine' Rf.cn_mk KX G ?a; (case a => k_is))
      (case n_MOST_LONG => refine' Rf.cn_mk KX G ?a; (case a => k_is))
      (case n_MOST_PIPES => refine' Rf.cn_mk KX G ?a; (case a => k_is))
      (case n_MOST_RATE => refine' Rf.cn_mk KX G ?a; (case a => k_is))
      (case n_MOST_TIMES => refine' Rf.cn_mk KX G ?a; (case a => k_is))
      (case n_MOST_TOKENS => refine' Rf.cn_mk KX G ?a; (case a => k_is))
    (case y_a0 => k_is)
    (case y_l0 => k_is)
    (case y_c0 => k_is)
    (case y_g0 => k_is)
    (case y_aC => k_is)
    (case y_a1 => k_is)
    (case y_i1 => k_is)
    (case y_l1 => k_is)
    (case y_c1 => k_is)
    (case y_g1 => k_is)
    (case y_a2 => k_is)
    (case y_i2 => k_is)
    (case y_l2 => k_is)
    (case y_c2 => k_is)
    (case y_g2 => k_is)
    (case y_pg => k_is)
    (case y_hd => k_is)
    (case y_po => k_is)
    (case y_sa => k_is)
    (case y_mk => k_is)
    (case y_kc => k_is)
    (case y_nF => k_is)
    (case y_nR => k_is)
    (case y_nS => k_is)
    (case y_nH => k_is)
    (case y_aE => k_is)
    (case y_eE => k_is)
    (case y_hE => k_is)
    (case y_tE => k_is)
    (case y_aB => k_is)
    (case y_xB => k_is)
    (case y_rB => decide +kernel)
    (case y_uB => decide +kernel)
    (case y_saB => k_is)
    (case y_gaB => k_is)
    (case y_ggB => k_is)
    (case y_nB => k_is)
    (case y_iB => k_is)
    (case y_tfB => k_is)
    (case y_kB => k_is)
    (case y_eB => k_is)
    (case y_vB => k_is)
    (case y_tB => k_is)
    (case y_hB => k_is)
    (case y_oB => first | k_is | rfl)
    (case y_suB => ks_is)
    (case y_opq => k_is)
    (case y_zS => k_is)
    (case y_lB => k_is)
    (case y_cB => k_is)
    (case y_lc => k_is)
    (case y_lv => rfl)
    (case y_lf => first | rfl | decide +kernel)
    (case y_ce => k_is)
    (case y_sBF => first | k_is | rfl)
    (case y_icB => k_is)
    (case y_clB => k_is)
    (case y_spB => k_is)
    (case y_tkB => k_is)
    (case y_moB => k_is)
