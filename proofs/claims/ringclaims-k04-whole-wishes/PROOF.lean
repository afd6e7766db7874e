import PyProof.Rows.All
import Wide.All
import OpenK.AllK
import Wide.FinOn
import HandS.ForMost
import HandS.Defaults
import PySem.Challenge.RW_ringclaims_k04_whole_wishes_and_what_is
import HandS.Strs
import HandS.SetFor
import HandS.Codes
import HandS.IsInst
import HandS.Walk
import HandS.More
import HandS.SortInts
import KE.GoesEnum
import HandS.Conv
import HandS.DictComp
import HandS.CallLocal
import HandS.SortRule
import HandS.Zip
import HandS.TupAny
import HandS.TupMul
import HandS.TupLe
import HandS.Flt
import HandS.Evl
import KE.KStateDown
import Lean
import HandS.Head0
import HandS.Head1
import HandS.Head2
import HandS.HeadEnd
import HandS.HeadHook1
import HandS.HeadHook2
import HandS.HeadHook3
import HandS.HeadHook4
set_option Elab.async false
set_option linter.all false
set_option maxRecDepth 100000
/-! The defs of the text by their places, the names of their slots. Printed by gen_text.py. -/
namespace Rc
open PySem L2
def topS (i : Nat) : Stmt := PySem.Challenge.pw_ringclaims_k04_whole_wishes_and_what_is.main.body.getD i (.Pass ⟨0, 0, 0, 0⟩)
/-- a def as it stands behind the top -/
abbrev FnP (K : PySem.W.Frag) (x q : Str) (st : Stmt) (f : Addr) (fd : FuncData) : Prop := FunD K x q (defArgs st) (defBody st) (defScope st) [] [] f fd
abbrev s_is_integer : Stmt := topS 5
abbrev N_is_integer : List Str := ["thing"]
abbrev P_is_integer : List Str := ["thing"]
theorem sc_is_integer : FnScope N_is_integer P_is_integer (defScope s_is_integer) := ⟨rfl, rfl, rfl, by decide +kernel, rfl, by decide +kernel, by decide +kernel⟩
abbrev s_is_within : Stmt := topS 6
abbrev N_is_within : List Str := ["thing", "least", "most"]
abbrev P_is_within : List Str := ["thing", "least", "most"]
theorem sc_is_within : FnScope N_is_within P_is_within (defScope s_is_within) := ⟨rfl, rfl, rfl, by decide +kernel, rfl, by decide +kernel, by decide +kernel⟩
abbrev s_is_number : Stmt := topS 7
abbrev N_is_number : List Str := ["thing", "most"]
abbrev P_is_number : List Str := ["thing", "most"]
theorem sc_is_number : FnScope N_is_number P_is_number (defScope s_is_number) := ⟨rfl, rfl, rfl, by decide +kernel, rfl, by decide +kernel, by decide +kernel⟩
abbrev s_is_triple : Stmt := topS 8
abbrev N_is_triple : List Str := ["thing"]
abbrev P_is_triple : List Str := ["thing"]
theorem sc_is_triple : FnScope N_is_triple P_is_triple (defScope s_is_triple) := ⟨rfl, rfl, rfl, by decide +kernel, rfl, by decide +kernel, by decide +kernel⟩
abbrev s_is_lot : Stmt := topS 9
abbrev N_is_lot : List Str := ["thing", "many", "last", "number"]
abbrev P_is_lot : List Str := ["thing", "many"]
theorem sc_is_lot : FnScope N_is_lot P_is_lot (defScope s_is_lot) := ⟨rfl, rfl, rfl, by decide +kernel, rfl, by decide +kernel, by decide +kernel⟩
abbrev s_is_first_behind : Stmt := topS 14
abbrev N_is_first_behind : List Str := ["head", "last", "thing"]
abbrev P_is_first_behind : List Str := ["head", "last", "thing"]
theorem sc_is_first_behind : FnScope N_is_first_behind P_is_first_behind (defScope s_is_first_behind) := ⟨rfl, rfl, rfl, by decide +kernel, rfl, by decide +kernel, by decide +kernel⟩
abbrev s_is_waits : Stmt := topS 15
abbrev N_is_waits : List Str := ["many", "deed", "thing"]
abbrev P_is_waits : List Str := ["many", "deed", "thing"]
theorem sc_is_waits : FnScope N_is_waits P_is_waits (defScope s_is_waits) := ⟨rfl, rfl, rfl, by decide +kernel, rfl, by decide +kernel, by decide +kernel⟩
abbrev s_first_wrong : Stmt := topS 16
abbrev N_first_wrong : List Str := ["head", "deeds", "last", "deed", "thing"]
abbrev P_first_wrong : List Str := ["head", "deeds"]
theorem sc_first_wrong : FnScope N_first_wrong P_first_wrong (defScope s_first_wrong) := ⟨rfl, rfl, rfl, by decide +kernel, rfl, by decide +kernel, by decide +kernel⟩
abbrev s_waited_for : Stmt := topS 17
abbrev N_waited_for : List Str := ["waits", "lot", "found", "waiting", "other", "deed"]
abbrev P_waited_for : List Str := ["waits", "lot"]
theorem sc_waited_for : FnScope N_waited_for P_waited_for (defScope s_waited_for) := ⟨rfl, rfl, rfl, by decide +kernel, rfl, by decide +kernel, by decide +kernel⟩
abbrev s_first_in_ring : Stmt := topS 18
abbrev N_first_in_ring : List Str := ["waits", "deed", "some"]
abbrev P_first_in_ring : List Str := ["waits"]
theorem sc_first_in_ring : FnScope N_first_in_ring P_first_in_ring (defScope s_first_in_ring) := ⟨rfl, rfl, rfl, by decide +kernel, rfl, by decide +kernel, by decide +kernel⟩
abbrev s_is_too_far : Stmt := topS 19
abbrev N_is_too_far : List Str := ["cells", "head", "deeds"]
abbrev P_is_too_far : List Str := ["cells", "head", "deeds"]
theorem sc_is_too_far : FnScope N_is_too_far P_is_too_far (defScope s_is_too_far) := ⟨rfl, rfl, rfl, by decide +kernel, rfl, by decide +kernel, by decide +kernel⟩
abbrev s_Standing_init : Stmt := inClass (topS 20) 0
abbrev N_Standing_init : List Str := ["self", "cells", "head", "deeds", "wrong", "first", "need", "waits"]
abbrev P_Standing_init : List Str := ["self", "cells", "head", "deeds"]
theorem sc_Standing_init : FnScope N_Standing_init P_Standing_init (defScope s_Standing_init) := ⟨rfl, rfl, rfl, by decide +kernel, rfl, by decide +kernel, by decide +kernel⟩
abbrev s_raw_standing : Stmt := topS 21
abbrev N_raw_standing : List Str := ["cells", "head", "deeds", "found"]
abbrev P_raw_standing : List Str := ["cells", "head", "deeds"]
theorem sc_raw_standing : FnScope N_raw_standing P_raw_standing (defScope s_raw_standing) := ⟨rfl, rfl, rfl, by decide +kernel, rfl, by decide +kernel, by decide +kernel⟩
abbrev s_waits_of : Stmt := topS 22
abbrev N_waits_of : List Str := ["standing", "first", "need", "waits"]
abbrev P_waits_of : List Str := ["standing"]
theorem sc_waits_of : FnScope N_waits_of P_waits_of (defScope s_waits_of) := ⟨rfl, rfl, rfl, by decide +kernel, rfl, by decide +kernel, by decide +kernel⟩
abbrev s_is_deed : Stmt := topS 28
abbrev N_is_deed : List Str := ["standing", "thing"]
abbrev P_is_deed : List Str := ["standing", "thing"]
theorem sc_is_deed : FnScope N_is_deed P_is_deed (defScope s_is_deed) := ⟨rfl, rfl, rfl, by decide +kernel, rfl, by decide +kernel, by decide +kernel⟩
abbrev s_is_row_wish : Stmt := topS 29
abbrev N_is_row_wish : List Str := ["standing", "thing"]
abbrev P_is_row_wish : List Str := ["standing", "thing"]
theorem sc_is_row_wish : FnScope N_is_row_wish P_is_row_wish (defScope s_is_row_wish) := ⟨rfl, rfl, rfl, by decide +kernel, rfl, by decide +kernel, by decide +kernel⟩
abbrev s_is_open_wish : Stmt := topS 30
abbrev N_is_open_wish : List Str := ["standing", "thing"]
abbrev P_is_open_wish : List Str := ["standing", "thing"]
theorem sc_is_open_wish : FnScope N_is_open_wish P_is_open_wish (defScope s_is_open_wish) := ⟨rfl, rfl, rfl, by decide +kernel, rfl, by decide +kernel, by decide +kernel⟩
abbrev s_is_wait_wish : Stmt := topS 31
abbrev N_is_wait_wish : List Str := ["standing", "thing", "deed", "other", "waits"]
abbrev P_is_wait_wish : List Str := ["standing", "thing"]
theorem sc_is_wait_wish : FnScope N_is_wait_wish P_is_wait_wish (defScope s_is_wait_wish) := ⟨rfl, rfl, rfl, by decide +kernel, rfl, by decide +kernel, by decide +kernel⟩
abbrev s_is_wish : Stmt := topS 32
abbrev N_is_wish : List Str := ["standing", "thing", "judge"]
abbrev P_is_wish : List Str := ["standing", "thing"]
theorem sc_is_wish : FnScope N_is_wish P_is_wish (defScope s_is_wish) := ⟨rfl, rfl, rfl, by decide +kernel, rfl, by decide +kernel, by decide +kernel⟩
abbrev s_check_wish : Stmt := topS 33
abbrev N_check_wish : List Str := ["standing", "thing"]
abbrev P_check_wish : List Str := ["standing", "thing"]
theorem sc_check_wish : FnScope N_check_wish P_check_wish (defScope s_check_wish) := ⟨rfl, rfl, rfl, by decide +kernel, rfl, by decide +kernel, by decide +kernel⟩
abbrev s_renumbered : Stmt := topS 34
abbrev N_renumbered : List Str := ["deeds", "order", "names", "found", "deed", "first", "need", "waits", "at", "other"]
abbrev P_renumbered : List Str := ["deeds", "order"]
theorem sc_renumbered : FnScope N_renumbered P_renumbered (defScope s_renumbered) := ⟨rfl, rfl, rfl, by decide +kernel, rfl, by decide +kernel, by decide +kernel⟩
abbrev s_written_many : Stmt := topS 35
abbrev N_written_many : List Str := ["deeds", "first", "need", "waits"]
abbrev P_written_many : List Str := ["deeds"]
theorem sc_written_many : FnScope N_written_many P_written_many (defScope s_written_many) := ⟨rfl, rfl, rfl, by decide +kernel, rfl, by decide +kernel, by decide +kernel⟩
abbrev s_behind_row : Stmt := topS 36
abbrev N_behind_row : List Str := ["standing", "deed", "cells", "need", "first", "elder", "waits", "deeds", "order"]
abbrev P_behind_row : List Str := ["standing", "deed", "cells", "need"]
theorem sc_behind_row : FnScope N_behind_row P_behind_row (defScope s_behind_row) := ⟨rfl, rfl, rfl, by decide +kernel, rfl, by decide +kernel, by decide +kernel⟩
abbrev s_behind_open : Stmt := topS 37
abbrev N_behind_open : List Str := ["standing", "cells", "need", "waits", "deeds", "order"]
abbrev P_behind_open : List Str := ["standing", "cells", "need", "waits"]
theorem sc_behind_open : FnScope N_behind_open P_behind_open (defScope s_behind_open) := ⟨rfl, rfl, rfl, by decide +kernel, rfl, by decide +kernel, by decide +kernel⟩
abbrev s_behind_wait : Stmt := topS 38
abbrev N_behind_wait : List Str := ["standing", "deed", "other", "deeds", "first", "need", "waits"]
abbrev P_behind_wait : List Str := ["standing", "deed", "other"]
theorem sc_behind_wait : FnScope N_behind_wait P_behind_wait (defScope s_behind_wait) := ⟨rfl, rfl, rfl, by decide +kernel, rfl, by decide +kernel, by decide +kernel⟩
abbrev s_behind_of : Stmt := topS 39
abbrev N_behind_of : List Str := ["standing", "wish"]
abbrev P_behind_of : List Str := ["standing", "wish"]
theorem sc_behind_of : FnScope N_behind_of P_behind_of (defScope s_behind_of) := ⟨rfl, rfl, rfl, by decide +kernel, rfl, by decide +kernel, by decide +kernel⟩
abbrev s_behind : Stmt := topS 40
abbrev N_behind : List Str := ["standing", "wish"]
abbrev P_behind : List Str := ["standing", "wish"]
theorem sc_behind : FnScope N_behind P_behind (defScope s_behind) := ⟨rfl, rfl, rfl, by decide +kernel, rfl, by decide +kernel, by decide +kernel⟩
abbrev s_l_hand : Stmt := topS 42
abbrev N_l_hand : List Str := ["_law_script", "_law_cells", "_law_cell"]
abbrev P_l_hand : List Str := ["_law_script"]
theorem sc_l_hand : FnScope N_l_hand P_l_hand (defScope s_l_hand) := ⟨rfl, rfl, rfl, by decide +kernel, rfl, by decide +kernel, by decide +kernel⟩
abbrev s_l_draw : Stmt := topS 43
abbrev N_l_draw : List Str := ["_law_hand_here", "_law_many", "_law_cell", "_law_digit", "_law_number"]
abbrev P_l_draw : List Str := ["_law_hand_here", "_law_many"]
theorem sc_l_draw : FnScope N_l_draw P_l_draw (defScope s_l_draw) := ⟨rfl, rfl, rfl, by decide +kernel, rfl, by decide +kernel, by decide +kernel⟩
abbrev s_l_closure : Stmt := topS 44
abbrev N_l_closure : List Str := ["_law_deeds_here", "_law_some", "_law_found", "_law_turn", "_law_more", "_law_deed", "_law_many"]
abbrev P_l_closure : List Str := ["_law_deeds_here", "_law_some"]
theorem sc_l_closure : FnScope N_l_closure P_l_closure (defScope s_l_closure) := ⟨rfl, rfl, rfl, by decide +kernel, rfl, by decide +kernel, by decide +kernel⟩
abbrev s_l_claim : Stmt := topS 45
abbrev N_l_claim : List Str := ["_law_deeds_here", "_law_deed"]
abbrev P_l_claim : List Str := ["_law_deeds_here", "_law_deed"]
theorem sc_l_claim : FnScope N_l_claim P_l_claim (defScope s_l_claim) := ⟨rfl, rfl, rfl, by decide +kernel, rfl, by decide +kernel, by decide +kernel⟩
abbrev s_l_load : Stmt := topS 46
abbrev N_l_load : List Str := ["_law_head", "_law_deeds_here", "_law_deed", "_law_used_here", "_law_other"]
abbrev P_l_load : List Str := ["_law_head", "_law_deeds_here", "_law_deed"]
theorem sc_l_load : FnScope N_l_load P_l_load (defScope s_l_load) := ⟨rfl, rfl, rfl, by decide +kernel, rfl, by decide +kernel, by decide +kernel⟩
abbrev s_l_loads : Stmt := topS 47
abbrev N_l_loads : List Str := ["_law_head", "_law_deeds_here", "_law_deed"]
abbrev P_l_loads : List Str := ["_law_head", "_law_deeds_here"]
theorem sc_l_loads : FnScope N_l_loads P_l_loads (defScope s_l_loads) := ⟨rfl, rfl, rfl, by decide +kernel, rfl, by decide +kernel, by decide +kernel⟩
abbrev s_l_waits : Stmt := topS 48
abbrev N_l_waits : List Str := ["_law_hand_here", "_law_many", "_law_share", "_law_left", "_law_order", "_law_found", "_law_at", "_law_deed", "_law_turn", "_law_other"]
abbrev P_l_waits : List Str := ["_law_hand_here", "_law_many", "_law_share"]
theorem sc_l_waits : FnScope N_l_waits P_l_waits (defScope s_l_waits) := ⟨rfl, rfl, rfl, by decide +kernel, rfl, by decide +kernel, by decide +kernel⟩
abbrev s_l_deeds : Stmt := topS 49
abbrev N_l_deeds : List Str := ["_law_hand_here", "_law_many", "_law_most", "_law_share", "_law_begun", "_law_head", "_law_firsts", "_law_deed", "_law_waits_here", "_law_needs"]
abbrev P_l_deeds : List Str := ["_law_hand_here", "_law_many", "_law_most", "_law_share"]
theorem sc_l_deeds : FnScope N_l_deeds P_l_deeds (defScope s_l_deeds) := ⟨rfl, rfl, rfl, by decide +kernel, rfl, by decide +kernel, by decide +kernel⟩
abbrev s_l_parts : Stmt := topS 50
abbrev N_l_parts : List Str := ["_law_hand_here", "_law_many", "_law_most", "_law_share", "_law_head", "_law_deeds_here", "_law_cells"]
abbrev P_l_parts : List Str := ["_law_hand_here", "_law_many", "_law_most", "_law_share"]
theorem sc_l_parts : FnScope N_l_parts P_l_parts (defScope s_l_parts) := ⟨rfl, rfl, rfl, by decide +kernel, rfl, by decide +kernel, by decide +kernel⟩
abbrev s_l_used : Stmt := topS 51
abbrev N_l_used : List Str := ["_law_head", "_law_deeds_here", "_law_firsts", "_law_deed"]
abbrev P_l_used : List Str := ["_law_head", "_law_deeds_here"]
theorem sc_l_used : FnScope N_l_used P_l_used (defScope s_l_used) := ⟨rfl, rfl, rfl, by decide +kernel, rfl, by decide +kernel, by decide +kernel⟩
abbrev s_l_numbered : Stmt := topS 52
abbrev N_l_numbered : List Str := ["_law_deeds_here", "_law_order", "_law_found", "_law_deed", "_law_first", "_law_need", "_law_waits_here", "_law_other"]
abbrev P_l_numbered : List Str := ["_law_deeds_here", "_law_order"]
theorem sc_l_numbered : FnScope N_l_numbered P_l_numbered (defScope s_l_numbered) := ⟨rfl, rfl, rfl, by decide +kernel, rfl, by decide +kernel, by decide +kernel⟩
abbrev s_l_aged : Stmt := topS 53
abbrev N_l_aged : List Str := ["_law_deeds_here", "_law_begun", "_law_deed", "_law_first"]
abbrev P_l_aged : List Str := ["_law_deeds_here"]
theorem sc_l_aged : FnScope N_l_aged P_l_aged (defScope s_l_aged) := ⟨rfl, rfl, rfl, by decide +kernel, rfl, by decide +kernel, by decide +kernel⟩
abbrev s_l_behind : Stmt := topS 54
abbrev N_l_behind : List Str := ["_law_parts_here", "_law_wish_here", "_law_cells", "_law_head", "_law_deeds_here", "_law_some", "_law_more", "_law_first", "_law_need", "_law_waits_here"]
abbrev P_l_behind : List Str := ["_law_parts_here", "_law_wish_here"]
theorem sc_l_behind : FnScope N_l_behind P_l_behind (defScope s_l_behind) := ⟨rfl, rfl, rfl, by decide +kernel, rfl, by decide +kernel, by decide +kernel⟩
abbrev s_l_wish : Stmt := topS 55
abbrev N_l_wish : List Str := ["_law_hand_here", "_law_parts_here", "_law_most", "_law_waits_here", "_law_cells", "_law_head", "_law_deeds_here", "_law_many", "_law_kind", "_law_some", "_law_deed", "_law_fit", "_law_row", "_law_need", "_law_other"]
abbrev P_l_wish : List Str := ["_law_hand_here", "_law_parts_here", "_law_most", "_law_waits_here"]
theorem sc_l_wish : FnScope N_l_wish P_l_wish (defScope s_l_wish) := ⟨rfl, rfl, rfl, by decide +kernel, rfl, by decide +kernel, by decide +kernel⟩
abbrev s_l_deep : Stmt := topS 56
abbrev N_l_deep : List Str := ["_law_kind", "_law_thing", "_law_turn"]
abbrev P_l_deep : List Str := ["_law_kind"]
theorem sc_l_deep : FnScope N_l_deep P_l_deep (defScope s_l_deep) := ⟨rfl, rfl, rfl, by decide +kernel, rfl, by decide +kernel, by decide +kernel⟩
abbrev s_l_odd : Stmt := topS 57
abbrev N_l_odd : List Str := ["_law_hand_here", "_law_thing", "_law_odd_here"]
abbrev P_l_odd : List Str := ["_law_hand_here", "_law_thing"]
theorem sc_l_odd : FnScope N_l_odd P_l_odd (defScope s_l_odd) := ⟨rfl, rfl, rfl, by decide +kernel, rfl, by decide +kernel, by decide +kernel⟩
abbrev s_l_is_whole : Stmt := topS 58
abbrev N_l_is_whole : List Str := ["_law_thing", "_law_least", "_law_most"]
abbrev P_l_is_whole : List Str := ["_law_thing", "_law_least", "_law_most"]
theorem sc_l_is_whole : FnScope N_l_is_whole P_l_is_whole (defScope s_l_is_whole) := ⟨rfl, rfl, rfl, by decide +kernel, rfl, by decide +kernel, by decide +kernel⟩
abbrev s_l_is_lot : Stmt := topS 59
abbrev N_l_is_lot : List Str := ["_law_thing", "_law_many", "_law_one", "_law_other", "_law_item"]
abbrev P_l_is_lot : List Str := ["_law_thing", "_law_many"]
theorem sc_l_is_lot : FnScope N_l_is_lot P_l_is_lot (defScope s_l_is_lot) := ⟨rfl, rfl, rfl, by decide +kernel, rfl, by decide +kernel, by decide +kernel⟩
abbrev s_l_is_due : Stmt := topS 60
abbrev N_l_is_due : List Str := ["_law_deeds_here", "_law_thing", "_law_many", "_law_right", "_law_deed", "_law_other"]
abbrev P_l_is_due : List Str := ["_law_deeds_here", "_law_thing"]
theorem sc_l_is_due : FnScope N_l_is_due P_l_is_due (defScope s_l_is_due) := ⟨rfl, rfl, rfl, by decide +kernel, rfl, by decide +kernel, by decide +kernel⟩
abbrev s_l_bent : Stmt := topS 61
abbrev N_l_bent : List Str := ["_law_hand_here", "_law_thing", "_law_deeds_here", "_law_standing", "_law_many", "_law_at", "_law_odd_here", "_law_new", "_law_pair", "_law_things", "_law_words"]
abbrev P_l_bent : List Str := ["_law_hand_here", "_law_thing", "_law_deeds_here", "_law_standing"]
theorem sc_l_bent : FnScope N_l_bent P_l_bent (defScope s_l_bent) := ⟨rfl, rfl, rfl, by decide +kernel, rfl, by decide +kernel, by decide +kernel⟩
abbrev s_law : Stmt := topS 62
abbrev N_law : List Str := ["_law_script", "_law_hand_here", "_law_turn", "_law_parts_here", "_law_standing", "_law_again", "_law_wish_here", "_law_due", "_law_told"]
abbrev P_law : List Str := ["_law_script"]
theorem sc_law : FnScope N_law P_law (defScope s_law) := ⟨rfl, rfl, rfl, by decide +kernel, rfl, by decide +kernel, by decide +kernel⟩
end Rc
/-! Plain mathematics of the law: lots, who is waited for, numbering anew. Core Lean alone. -/
namespace Rc

/-- a deed: its first place, its end need, for whom it waits -/
abbrev Deed := Option Int × Int × List Int
def noDeed : Deed := (none, 0, [])
abbrev waitsL (ds : List Deed) : List (List Int) := ds.map fun d => d.2.2

/-! ### lists -/
theorem nodup_le : ∀ {xs U : List Int}, xs.Nodup → (∀ x ∈ xs, x ∈ U) → xs.length ≤ U.length
  | [], U, _, _ => Nat.zero_le _
  | x :: r, U, h, hs => by
    obtain ⟨h1, h2⟩ := List.nodup_cons.mp h
    have hx : x ∈ U := hs x (List.mem_cons_self ..)
    have hr : ∀ y ∈ r, y ∈ U.erase x := fun y hy => by
      have ne : y ≠ x := fun e => h1 (e ▸ hy)
      exact (List.mem_erase_of_ne ne).mpr (hs y (List.mem_cons_of_mem _ hy))
    have q := nodup_le h2 hr
    have e := List.length_erase_of_mem hx
    have p : 0 < U.length := List.length_pos_of_mem hx
    rw [List.length_cons]
    omega
theorem nodup_back {a b : List Int} (ha : a.Nodup) (hb : b.Nodup) (hs : ∀ x ∈ a, x ∈ b) (hl : b.length ≤ a.length) : ∀ x ∈ b, x ∈ a := fun x hx => by
  refine Classical.byContradiction fun hn => ?_
  have hr : ∀ y ∈ a, y ∈ b.erase x := fun y hy => by
    have ne : y ≠ x := fun e => hn (e ▸ hy)
    exact (List.mem_erase_of_ne ne).mpr (hs y hy)
  have q := nodup_le ha hr
  have e := List.length_erase_of_mem hx
  have p : 0 < b.length := List.length_pos_of_mem hx
  omega
/-- the numbers 0 to n - 1 -/
def rangeI (n : Nat) : List Int := (List.range n).map fun i : Nat => (i : Int)
theorem rangeI_length (n : Nat) : (rangeI n).length = n := by
  unfold rangeI
  rw [List.length_map, List.length_range]
theorem mem_rangeI {n : Nat} {x : Int} : x ∈ rangeI n ↔ 0 ≤ x ∧ x < n := by
  unfold rangeI
  rw [List.mem_map]
  constructor
  · rintro ⟨i, hi, rfl⟩
    rw [List.mem_range] at hi
    omega
  · rintro ⟨h0, h1⟩
    exact ⟨x.toNat, List.mem_range.mpr (by omega), by omega⟩
theorem rangeI_get {n i : Nat} (h : i < n) : (rangeI n)[i]? = some (i : Int) := by
  unfold rangeI
  rw [List.getElem?_map, List.getElem?_range h]
  rfl
/-- ascending, each once -/
abbrev Asc (xs : List Int) : Prop := xs.Pairwise (· < ·)
theorem Asc.nodup {xs : List Int} (h : Asc xs) : xs.Nodup := List.Pairwise.imp (fun {a b} (q : a < b) => Int.ne_of_lt q) h
theorem Asc.le {xs : List Int} (h : Asc xs) : xs.Pairwise (· ≤ ·) := List.Pairwise.imp (fun {a b} (q : a < b) => Int.le_of_lt q) h
theorem asc_range (n : Nat) : Asc (rangeI n) := by
  unfold rangeI
  refine List.pairwise_map.mpr (List.Pairwise.imp (fun {a b} (q : a < b) => ?_) List.pairwise_lt_range)
  omega
/-- all of them numbers below n -/
abbrev InR (n : Nat) (xs : List Int) : Prop := ∀ x ∈ xs, 0 ≤ x ∧ x < (n : Int)
theorem inR_le {n : Nat} {xs : List Int} (h : xs.Nodup) (hr : InR n xs) : xs.length ≤ n := by
  have q := nodup_le (U := rangeI n) h fun x hx => mem_rangeI.mpr (hr x hx)
  rw [rangeI_length] at q
  exact q

/-! ### sorted -/
def isort (l : List Int) : List Int := l.mergeSort fun a b => decide (a ≤ b)
theorem isort_perm (l : List Int) : (isort l).Perm l := List.mergeSort_perm l _
theorem isort_le (l : List Int) : (isort l).Pairwise (· ≤ ·) := by
  have q := List.pairwise_mergeSort (le := fun a b : Int => decide (a ≤ b)) (fun a b c h1 h2 => by
    simp only [decide_eq_true_eq] at *
    omega) (fun a b => by
    simp only [Bool.or_eq_true, decide_eq_true_eq]
    omega) l
  exact q.imp fun {a b} h => of_decide_eq_true h
theorem isort_eq {l m : List Int} (p : m.Perm l) (s : m.Pairwise (· ≤ ·)) : m = isort l :=
  List.Perm.eq_of_pairwise (fun a b _ _ h1 h2 => Int.le_antisymm h1 h2) s (isort_le l) (p.trans (isort_perm l).symm)
theorem isort_of {l : List Int} (h : l.Pairwise (· ≤ ·)) : isort l = l := (isort_eq (List.Perm.refl l) h).symm
theorem isort_asc {l : List Int} (h : l.Nodup) : Asc (isort l) := by
  have d : (isort l).Nodup := (isort_perm l).nodup_iff.mpr h
  have both := List.Pairwise.and (isort_le l) d
  exact both.imp fun {a b} q => by
    obtain ⟨q1, q2⟩ := q
    have : a ≠ b := q2
    omega
theorem mem_isort {l : List Int} {x : Int} : x ∈ isort l ↔ x ∈ l := (isort_perm l).mem_iff
theorem isort_length (l : List Int) : (isort l).length = l.length := (isort_perm l).length_eq

/-! ### who is waited for -/
inductive Reach (W : List (List Int)) (S : List Int) : Int → Prop
  | base {x : Int} (h : x ∈ S) : Reach W S x
  | step {x y : Int} {ws : List Int} (r : Reach W S x) (h : W[x.toNat]? = some ws) (hy : y ∈ ws) : Reach W S y
def Closed (W : List (List Int)) (L : List Int) : Prop := ∀ x ∈ L, ∀ ws, W[x.toNat]? = some ws → ∀ y ∈ ws, y ∈ L
theorem Reach.mem {W : List (List Int)} {S L : List Int} (hS : ∀ x ∈ S, x ∈ L) (hc : Closed W L) : ∀ {x : Int}, Reach W S x → x ∈ L
  | _, .base h => hS _ h
  | _, .step r h hy => hc _ (Reach.mem hS hc r) _ h _ hy
/-- all waits, the lot too, are numbers below n -/
theorem Reach.inR {W : List (List Int)} {S : List Int} {n : Nat} (hS : InR n S) (hW : ∀ ws ∈ W, InR n ws) : ∀ {x : Int}, Reach W S x → 0 ≤ x ∧ x < (n : Int)
  | _, .base h => hS _ h
  | _, .step _ h hy => hW _ (List.mem_of_getElem? h) _ hy
/-- nobody waits for itself, one of another -/
def NoRing (W : List (List Int)) : Prop := ∀ (i : Nat) (ws : List Int), W[i]? = some ws → ¬ Reach W ws (i : Int)
theorem Reach.rank {W : List (List Int)} {S : List Int} {rk : Int → Nat} {m : Nat} (h0 : ∀ ws ∈ W, ∀ y ∈ ws, 0 ≤ y) (hS0 : ∀ y ∈ S, 0 ≤ y) (hS : ∀ y ∈ S, rk y < m) (hr : ∀ (i : Nat) (ws : List Int), W[i]? = some ws → ∀ y ∈ ws, rk y < rk (i : Int)) :
    ∀ {x : Int}, Reach W S x → 0 ≤ x ∧ rk x < m
  | _, .base h => ⟨hS0 _ h, hS _ h⟩
  | y, .step (x := x) r h hy => by
    obtain ⟨p, q⟩ := Reach.rank h0 hS0 hS hr r
    have e : ((x.toNat : Nat) : Int) = x := by omega
    have l := hr _ _ h _ hy
    rw [e] at l
    exact ⟨h0 _ (List.mem_of_getElem? h) _ hy, by omega⟩
theorem noRing_rank {W : List (List Int)} {rk : Int → Nat} (h0 : ∀ ws ∈ W, ∀ y ∈ ws, 0 ≤ y) (hr : ∀ (i : Nat) (ws : List Int), W[i]? = some ws → ∀ y ∈ ws, rk y < rk (i : Int)) : NoRing W := fun i ws h r => by
  have q := (Reach.rank (m := rk (i : Int)) h0 (h0 ws (List.mem_of_getElem? h)) (hr i ws h) hr r).2
  omega

/-! ### the program's search: found, waiting -/
structure Dfs (W : List (List Int)) (S F Wt : List Int) : Prop where
  nd : F.Nodup
  s : ∀ x ∈ S, x ∈ F
  r : ∀ x ∈ F, Reach W S x
  w : ∀ x ∈ Wt, x ∈ F
  c : ∀ x ∈ F, x ∈ Wt ∨ ∀ ws, W[x.toNat]? = some ws → ∀ y ∈ ws, y ∈ F
theorem Dfs.done {W : List (List Int)} {S F : List Int} (d : Dfs W S F []) (x : Int) : x ∈ F ↔ Reach W S x :=
  ⟨d.r x, Reach.mem d.s fun x hx ws h y hy => (d.c x hx).elim (fun z => nomatch z) fun q => q ws h y hy⟩
/-- amid the waits ws of x -/
structure DfsP (W : List (List Int)) (S : List Int) (x : Int) (ws : List Int) (F0 Wt0 : List Int) (j : Nat) (F Wt : List Int) : Prop where
  nd : F.Nodup
  s : ∀ x ∈ S, x ∈ F
  r : ∀ x ∈ F, Reach W S x
  w : ∀ x ∈ Wt, x ∈ F
  hx : x ∈ F
  c : ∀ z ∈ F, z = x ∨ z ∈ Wt ∨ ∀ us, W[z.toNat]? = some us → ∀ y ∈ us, y ∈ F
  p : ∀ y ∈ ws.take j, y ∈ F
  m : Wt.length + F0.length = Wt0.length + F.length
theorem Dfs.pop {W : List (List Int)} {S F Wt : List Int} {x : Int} (d : Dfs W S F (Wt ++ [x])) (ws : List Int) : DfsP W S x ws F Wt 0 F Wt where
  nd := d.nd
  s := d.s
  r := d.r
  w := fun z hz => d.w z (List.mem_append_left _ hz)
  hx := d.w x (List.mem_append_right _ (List.mem_singleton_self _))
  c := fun z hz => by
    rcases d.c z hz with q | q
    · rcases List.mem_append.mp q with q | q
      · exact .inr (.inl q)
      · exact .inl (List.mem_singleton.mp q)
    · exact .inr (.inr q)
  p := fun y hy => by simp at hy
  m := by omega
theorem DfsP.old {W : List (List Int)} {S ws F0 Wt0 F Wt : List Int} {x y : Int} {j : Nat} (d : DfsP W S x ws F0 Wt0 j F Wt) (hj : ws[j]? = some y) (h : y ∈ F) : DfsP W S x ws F0 Wt0 (j + 1) F Wt := by
  refine ⟨d.nd, d.s, d.r, d.w, d.hx, d.c, fun z hz => ?_, d.m⟩
  rw [List.take_add_one, hj] at hz
  rcases List.mem_append.mp hz with q | q
  · exact d.p z q
  · have e : z = y := by simpa using q
    rw [e]
    exact h
theorem DfsP.new {W : List (List Int)} {S ws F0 Wt0 F Wt : List Int} {x y : Int} {j : Nat} (d : DfsP W S x ws F0 Wt0 j F Wt) (hw : W[x.toNat]? = some ws) (hj : ws[j]? = some y) (h : y ∉ F) : DfsP W S x ws F0 Wt0 (j + 1) (F ++ [y]) (Wt ++ [y]) where
  nd := by
    refine List.nodup_append.mpr ⟨d.nd, by simp, fun a ha b hb => ?_⟩
    have e : b = y := by simpa using hb
    intro q
    exact h (by rw [← e, ← q]; exact ha)
  s := fun z hz => List.mem_append_left _ (d.s z hz)
  r := fun z hz => by
    rcases List.mem_append.mp hz with q | q
    · exact d.r z q
    · have e : z = y := by simpa using q
      rw [e]
      exact .step (d.r x d.hx) hw (List.mem_of_getElem? hj)
  w := fun z hz => by
    rcases List.mem_append.mp hz with q | q
    · exact List.mem_append_left _ (d.w z q)
    · exact List.mem_append_right _ q
  hx := List.mem_append_left _ d.hx
  c := fun z hz => by
    rcases List.mem_append.mp hz with q | q
    · rcases d.c z q with e | e | e
      · exact .inl e
      · exact .inr (.inl (List.mem_append_left _ e))
      · exact .inr (.inr fun us hu y' hy' => List.mem_append_left _ (e us hu y' hy'))
    · exact .inr (.inl (List.mem_append_right _ q))
  p := fun z hz => by
    rw [List.take_add_one, hj] at hz
    rcases List.mem_append.mp hz with q | q
    · exact List.mem_append_left _ (d.p z q)
    · exact List.mem_append_right _ (by simpa using q)
  m := by
    have q := d.m
    rw [List.length_append, List.length_append, List.length_singleton]
    omega
theorem DfsP.done {W : List (List Int)} {S ws F0 Wt0 F Wt : List Int} {x : Int} (d : DfsP W S x ws F0 Wt0 ws.length F Wt) (hw : W[x.toNat]? = some ws) : Dfs W S F Wt where
  nd := d.nd
  s := d.s
  r := d.r
  w := d.w
  c := fun z hz => by
    rcases d.c z hz with e | e | e
    · refine .inr fun us hu y hy => ?_
      rw [e, hw] at hu
      cases hu
      exact d.p y (by rw [List.take_length]; exact hy)
    · exact .inl e
    · exact .inr e
theorem dfs_start {W : List (List Int)} {S : List Int} (h : S.Nodup) : Dfs W S S S := ⟨h, fun _ q => q, fun _ q => .base q, fun _ q => q, fun _ q => .inl q⟩

/-! ### the law's closure: found grows till it does not -/
structure Clo (W : List (List Int)) (S : List Int) (i : Nat) (F : List Int) : Prop where
  asc : Asc F
  s : ∀ x ∈ S, x ∈ F
  r : ∀ x ∈ F, Reach W S x
  l : i + 1 ≤ F.length
/-- what one turn brings: F' has the same as F and all waits of F -/
theorem Clo.turn {W : List (List Int)} {S F F' : List Int} {i : Nat} (c : Clo W S i F) (a : Asc F') (m : ∀ x : Int, x ∈ F' ↔ x ∈ F ∨ ∃ d ∈ F, ∃ ws, W[d.toNat]? = some ws ∧ x ∈ ws) :
    (∀ x ∈ F', Reach W S x) ∧ (∀ x ∈ S, x ∈ F') ∧ F.length ≤ F'.length ∧ (F'.length ≤ F.length → Closed W F') := by
  have sub : ∀ x ∈ F, x ∈ F' := fun x hx => (m x).mpr (.inl hx)
  refine ⟨fun x hx => ?_, fun x hx => sub x (c.s x hx), nodup_le c.asc.nodup sub, fun hl => ?_⟩
  · rcases (m x).mp hx with q | ⟨d, hd, ws, hw, q⟩
    · exact c.r x q
    · exact .step (c.r d hd) hw q
  · have back := nodup_back c.asc.nodup a.nodup sub hl
    exact fun x hx ws hw y hy => (m y).mpr (.inr ⟨x, back x hx, ws, hw, hy⟩)
theorem Clo.next {W : List (List Int)} {S F F' : List Int} {i : Nat} (c : Clo W S i F) (a : Asc F') (m : ∀ x : Int, x ∈ F' ↔ x ∈ F ∨ ∃ d ∈ F, ∃ ws, W[d.toNat]? = some ws ∧ x ∈ ws) (hl : F'.length ≠ F.length) : Clo W S (i + 1) F' := by
  obtain ⟨h1, h2, h3, _⟩ := c.turn a m
  have l := c.l
  exact ⟨a, h2, h1, by omega⟩
theorem Clo.stop {W : List (List Int)} {S F F' : List Int} {i : Nat} (c : Clo W S i F) (a : Asc F') (m : ∀ x : Int, x ∈ F' ↔ x ∈ F ∨ ∃ d ∈ F, ∃ ws, W[d.toNat]? = some ws ∧ x ∈ ws) (hl : F'.length = F.length) (x : Int) : x ∈ F' ↔ Reach W S x := by
  obtain ⟨h1, h2, _, h4⟩ := c.turn a m
  exact ⟨h1 x, Reach.mem h2 (h4 (by omega))⟩
theorem Clo.absurd {W : List (List Int)} {S F : List Int} {n : Nat} (c : Clo W S n F) (hS : InR n S) (hW : ∀ ws ∈ W, InR n ws) : False := by
  have q := inR_le c.asc.nodup fun x hx => (c.r x hx).inR hS hW
  have l := c.l
  omega
end Rc
set_option maxHeartbeats 4000000
/-! set(xs) of a list of ints, as a set that sorted(..) can walk (the layer has it for a tuple). -/
namespace Rc
open PySem PySem.Spec PyProof.Rows L2
/-- a set just made -/
abbrev so (w : World) : Obj := { cls := .type "set", dict := none, data := .set #[] 0 (.fresh 0 0 (!w.params.followText "set-order")) }
section
variable {P : Program} {w : World} {A : Around} {E : Value → Shared → Prop} {s : Shared}
theorem call_set_lst {l : Addr} {items : Array Value} (ns : List Int) {Q : Value → Shared → Prop} (hh : A.handled = none) (hl : s.heap.IsList l items) (hit : IntsAre items.toList ns) (hb : ns.length + 1 < scanBound)
    (h : ∀ (h' : Heap) (tk c : Nat), SetR w h' s.heap.objs.size (fun j => decide (j ∈ ns)) c → c ≤ ns.length → (∀ b o, s.heap.get? b = some o → h'.get? b = some o) → Q (.ref s.heap.objs.size) { s with heap := h', toks := tk }) :
    wpAny (model P w) A (call (.type "set") [.ref l]) Q E s := by
  have isz : items.size = ns.length := by
    have q := hit.length
    rw [Array.length_toList] at q
    exact q
  have ⟨c0, tl, hmro⟩ := F.called_set.mro
  have hmade := F.called_set.made
  have hsub := F.called_set.sub
  have h1 := F.called_set.notType
  have h2 := F.called_set.canCreate
  have hct := F.typeCall_set_1 (.ref l)
  refine wpAny_call (codeAny_of_tree ?_)
  show wpAny _ _ (callAny (.type "set") _) _ _ _
  refine wpAny_pure ⟨Code.quiet_builtin _ (by decide +kernel), codeAny_builtin F.entry_type_call ?_⟩
  rw [Around.under_plain (weight_type_call_type "set" [.ref l] []) rfl]
  repeat (any_goals (first | assumption | wp_step))
  have sz1 : (s.heap.push (so w)).objs.size = s.heap.objs.size + 1 := Heap.size_push ..
  have made : (s.heap.push (so w)).get? s.heap.objs.size = some (so w) := Heap.get?_push_size _ rfl
  refine codeAny_mono (code_set_led1 (.ref l) (E := E) (Q₁ := fun obj s1 => obj = .ref s.heap.objs.size ∧ s1 = { s with heap := s.heap.push (so w) }) ⟨rfl, rfl⟩) fun r s1 hr => ?_
  match r, hr with
  | .error e, hr => exact hr
  | .ok (.ret obj), hr =>
    obtain ⟨rfl, rfl⟩ := hr
    have hT : Shared.TypeIs { s with heap := s.heap.push (so w) } (.ref s.heap.objs.size) "set" := ⟨_, made, rfl⟩
    have hli := F.called_set.init.lookup
    have hbi := F.called_set.init.bind (.ref s.heap.objs.size)
    repeat (any_goals (first | assumption | wp_step))
    refine codeAny_mono (codeAny_call_builtin (R := wants (fun r s2 => r = .none ∧ ∃ h' tk c, s2 = { s with heap := h', toks := tk } ∧ SetR w h' s.heap.objs.size (fun j => decide (j ∈ ns)) c ∧ c ≤ ns.length ∧
      ∀ b o, s.heap.get? b = some o → h'.get? b = some o) E) F.called_set.init.plain F.entry_set_init (check_set_init_1 hT ?_)) fun r2 s2 hr2 => ?_
    · obtain ⟨ol, hol, hcl, nl, hdl⟩ := hl
      obtain ⟨ocls, odict, odata, oslots⟩ := ol
      obtain rfl : ocls = .type "list" := hcl
      obtain rfl : odata = .seq items nl := hdl
      have hls : l < s.heap.objs.size := Heap.lt_size hol
      have hol' := Heap.get?_push_of_some (so w) hol
      have hsls := F.sub_list_set
      have hslf := F.sub_list_frozenset
      have hne : (Value.type "list" == Value.type "dict") = false := by decide
      have hl1 : (s.heap.push (so w)).IsList l items := ⟨_, hol', rfl, nl, rfl⟩
      have hh3 : A.in1.in1.in1.handled = none := by simp [hh]
      unfold Builtin.«set.__init__» noKeywords Builtin.Frozenset.updateFrom
      generalize hPI : pyIter = PI
      wp_walk
      subst hPI
      refine wpAny_pyIter_list hl1 (wpAny_bind (wpAny_runValue ?_))
      have nI : l ≠ (s.heap.push (so w)).objs.size := by
        rw [sz1]
        exact Nat.ne_of_lt (Nat.lt_succ_of_lt hls)
      have nS : s.heap.objs.size ∉ [(s.heap.push (so w)).objs.size, l] := by
        rw [sz1]
        simp only [List.mem_cons, List.not_mem_nil, or_false, not_or]
        exact ⟨Nat.ne_of_lt (Nat.lt_succ_self _), Nat.ne_of_gt hls⟩
      have hval : ∀ (i : Nat) (v : Value), items[i]? = some v → ∃ k t, ns[i]? = some k ∧ v = .int k t := fun i v hv => by
        have hi : i < ns.length := isz ▸ (Array.getElem?_eq_some_iff.mp hv).1
        obtain ⟨t, e⟩ := PyProof.Rows.IntsAre.int_at hit i v (by rw [Array.getElem?_toList]; exact hv)
        exact ⟨ns[i], t, List.getElem?_eq_getElem hi, by simpa [List.getD_eq_getElem?_getD, List.getElem?_eq_getElem hi] using e⟩
      refine set_update_ints ((Walks.list hh3 _ l nI items).toS) s.heap.objs.size nS ns isz hb hval (items.size - 0) 0 _ (by omega) (Nat.zero_le _)
        ⟨⟨_, Heap.get?_push_size _ rfl, rfl, rfl⟩, (hl1.push _)⟩ ⟨0, Nat.le_refl 0, setR_new_at (Heap.get?_push_of_some _ made)⟩ fun s' c' hm hc hS => ?_
      obtain ⟨h', g', d', t', os'⟩ := s'
      obtain rfl : g' = s.gens := hm.gens
      obtain rfl : d' = s.drawn := hm.drawn
      obtain rfl : os' = s.os := hm.os
      show wpAny _ _ _ _ _ _
      refine wpAny_pure ?_
      show wpAny _ _ (ret Value.none) _ _ _
      refine wpAny_pure ⟨rfl, h', t', c', rfl, hS, isz ▸ hc, fun b o e => ?_⟩
      have hb0 : b < s.heap.objs.size := Heap.lt_size e
      refine hm.heap b o ?_ (Heap.get?_push_of_some _ (Heap.get?_push_of_some _ e))
      rw [sz1]
      simp only [List.mem_cons, List.not_mem_nil, or_false, not_or]
      exact ⟨Nat.ne_of_lt hb0, Nat.ne_of_lt (Nat.lt_succ_of_lt hb0)⟩
    · match r2, hr2 with
      | .error e, hr2 => exact hr2
      | .ok (.ret r), hr2 =>
        obtain ⟨rfl, h', tk, c', rfl, hS, hc, hk⟩ := hr2
        repeat (any_goals (first | assumption | wp_step))
        exact h _ _ _ hS hc hk
end
/-- set(xs), xs a list of ints -/
def rSetL (K : PySem.W.Frag) (w : World) : List V → Hp → VK → Prop := fun xs H Q => ∃ (l : Addr) (ns : List Int), xs = [V.ref l] ∧ SqL K H l (ns.map V.int) ∧ ns.length + 1 < scanBound ∧
  ∀ (p : Addr) (c : Nat), H p = none → c ≤ ns.length → Q (.ref p) (upd H p (SetO w p (fun j => decide (j ∈ ns)) c))
theorem cr_setL {X : Cx} (hc : X.calm = true) : CallR X (.type "set") (rSetL X.K X.w) := by
  intro pins s σ H xs us Q I r h
  obtain ⟨l, ns, rfl, hs, hb, q⟩ := h
  rw [Vals.ref1 r]
  obtain ⟨its, rv, pl, hz⟩ := I.list hs
  refine call_set_lst ns (I.ok.hd hc) pl.isList (by simpa using rv.ints) hb fun h' tk c R hle hk => ?_
  have hn : H s.heap.objs.size = none := I.hok.fresh (Nat.le_refl _)
  exact ⟨.ref s.heap.objs.size, _, I.laid (t' := tk) hk (Nat.le_refl _) (setO_new R), rfl, q _ c hn hle⟩
end Rc
set_option maxHeartbeats 4000000
/-! sorted(t) of a tuple of ints (the layer has it for a list). -/
namespace Rc
open PySem PySem.Spec PyProof.Rows L2
section
variable {prog : Program} {w : World} {A : Around} {E : Value → Shared → Prop} {s : Shared}
/-- the heap behind collect -/
abbrev gath (h : Heap) (vs : List Value) : Heap := (h.push (seqObj "list" #[] 0)).update h.objs.size (Obj.mapSeq (· ++ vs.toArray))
theorem collect_tup {l : Addr} {vs : List Value} {Q : List Value → Shared → Prop} (hl : s.heap.IsTuple l vs.toArray) (h : Q vs { s with heap := gath s.heap vs }) (hsz : vs.length ≤ sizeLine) : wpAny (model prog w) A (collect (.ref l)) Q E s := by
  have ⟨o, ho, hc, n, hd⟩ := hl
  have ho2 := Heap.get?_push_of_some (seqObj "list" #[] 0) ho
  have hn : (s.heap.push (seqObj "list" #[] 0)).get? s.heap.objs.size = some (seqObj "list" #[] 0) := Heap.get?_push_size _ rfl
  unfold collect
  refine wpAny_bind (wpAny_runValue (codeAny_builtin entry_proto_collect' ?_))
  show wpAny _ _ (newList [] >>= _) _ _ s
  refine wpAny_bind (wpAny_newList (wpAny_pure ⟨Code.quiet_builtin _ (by decide +kernel), codeAny_builtin entry_list_iadd' ?_⟩))
  show wpAny _ _ (Builtin.List.listExtendWith (.ref s.heap.objs.size) (.ref l) (.ref s.heap.objs.size)) _ _ { s with heap := s.heap.push (seqObj "list" #[] 0) }
  unfold Builtin.List.listExtendWith
  refine wpAny_bind (wpAny_typeOf (T := "tuple") ⟨o, ho2, hc⟩ ?_)
  rw [if_pos (by rw [show (Value.type "tuple" == Value.type "tuple") = true from rfl]; simp)]
  refine wpAny_bind (listItems_at ho2 hd (wpAny_bind (listItems_at (xs := #[]) (n := 0) hn rfl ?_)))
  rw [if_neg (by simp)]
  refine wpAny_bind (listUpdate_at (xs := #[]) (n := 0) hn rfl ?_ (Nat.zero_le _) (by show (#[] ++ vs.toArray).size ≤ sizeLine + 1; simp only [Array.size_append, List.size_toArray, List.length_nil]; omega))
  refine wpAny_pure ?_
  show wpAny (model prog w) A (load s.heap.objs.size >>= _) Q E { s with heap := gath s.heap vs }
  refine wpAny_bind (wpAny_load (get?_update_seq hn _) ?_)
  show wpAny _ _ (pure ((#[] : Array Value) ++ vs.toArray).toList) Q E _
  rw [show ((#[] : Array Value) ++ vs.toArray).toList = vs by simp]
  exact wpAny_pure h
theorem sorted_tup {l : Addr} {vs : List Value} {ns : List Int} {Q : Value → Shared → Prop} (hl : s.heap.IsTuple l vs.toArray) (hI : IntsAre vs ns) (h64 : vs.length < 64)
    (h : ∀ (out : Array Value) (ns' : List Int), IntsAre out.toList ns' → ns'.Perm ns → ns'.Pairwise (· ≤ ·) → Q (.ref (s.heap.objs.size + 1)) { s with heap := sortedAll s.heap vs out }) :
    wpAny (model prog w) A (call (.builtin "sorted") [.ref l]) Q E s := by
  have hz : vs.length ≤ sizeLine := Nat.le_trans (Nat.le_of_lt h64) (by decide)
  have hsz : (gath s.heap vs).objs.size = s.heap.objs.size + 1 := by rw [Heap.size_update, size_push']
  have hoL : ((gath s.heap vs).push (seqObj "list" vs.toArray 0)).get? (s.heap.objs.size + 1) = some (seqObj "list" vs.toArray 0) := by
    rw [← hsz]
    exact Heap.get?_push_size _ rfl
  refine Calls.call_function_entry kind_sorted plain_sorted entry_sorted (args_sorted1 _) ?_
  unfold Builtin.«sorted»
  refine wpAny_bind (m := checkCount "sorted" 1 1 _) (wpAny_pure (wpAny_bind (collect_tup hl ?_ hz)))
  refine wpAny_bind (wpAny_newList ?_ hz)
  show wpAny _ _ _ _ _ { s with heap := (gath s.heap vs).push (seqObj "list" vs.toArray 0) }
  rw [hsz]
  refine wpAny_bind (wpAny_holding (wpAny_call_entry slot_list_sort ⟨_, hoL, rfl⟩ entry_list_sort (list_sort_tree hoL hI h64 fun out ns' a1 a2 a3 => ⟨_, rfl, ?_⟩) (args_list_sort _)))
  exact wpAny_pure ⟨_, rfl, h out ns' a1 a2 a3⟩
end
def rSortTup (K : PySem.W.Frag) : List V → Hp → VK → Prop := fun vs H Q => ∃ (a : Addr) (ns : List Int), vs = [V.ref a] ∧ SqT K H a (ns.map V.int) ∧ ns.length < 64 ∧
  ∀ (ns' : List Int) (p : Addr), ns'.Perm ns → ns'.Pairwise (· ≤ ·) → H p = none → Q (.ref p) (upd H p (.lst (ns'.map V.int)))
theorem cr_sortTup {X : Cx} : CallR X (.builtin "sorted") (rSortTup X.K) := by
  intro pins s σ H vs us Q I r h
  obtain ⟨a, ns, rfl, hs, h64, q⟩ := h
  obtain ⟨its, rv, hl, hz⟩ := I.tuple hs
  rw [Vals.ref1 r]
  have hlen : its.length = ns.length := by rw [← rv.length, List.length_map]
  refine sorted_tup hl rv.ints (by rw [hlen]; exact h64) fun out ns' h1 h2 h3 => ?_
  obtain ⟨ep, he⟩ := sortedAll_at s.heap its out
  have hl2 : (ns'.map V.int).length ≤ sizeLine := by
    rw [List.length_map, h2.length_eq]
    exact Nat.le_trans (Nat.le_of_lt h64) (by decide)
  exact ⟨.ref _, upd H (s.heap.objs.size + 1) (.lst (ns'.map V.int)), I.laid (t' := s.toks) (fun _ _ => sortedAll_old) (Nat.le_succ _) ⟨hl2, out.toList, ep, vals_of_ints h1, by rw [Array.toArray_toList]; exact he⟩, rfl, q ns' _ h2 h3 (I.hok.fresh (Nat.le_succ _))⟩
end Rc
set_option maxHeartbeats 4000000
/-! Rules that the layer lacks: enumerate(tuple), sorted(tuple of ints), get of a written table. -/
namespace Rc
open PySem PySem.Spec PyProof.Rows L2
/-! ### for i, x in enumerate(t), t a tuple -/
theorem meets_enum1 {v : Value} {o : Obj} {Hh : Heap → Prop} (B : Begins v o Hh) :
    Meets (Builtin.«enumerate.__new__» ⟨[.type "enumerate", v], []⟩) (fun _ R s => Hh s.heap ∧ R (.ok (.ret (.ref (s.heap.push o).objs.size)))
      { s with heap := (s.heap.push o).push { cls := .type "enumerate", data := .fields #[.none, .bool false, .ref s.heap.objs.size, rawInt 0, .none, .none] } }) := by
  refine .of_wp fun prog w A R s h => ?_
  obtain ⟨hp, gs, dr, tk, os⟩ := s
  obtain ⟨hB, h⟩ := h
  have hsub := sub_enumerate
  have it1 : ∀ {A' : Around} {E Q : Value → Shared → Prop}, Q (.ref hp.objs.size) ⟨hp.push o, gs, dr, tk, os⟩ → wpAny (model prog w) A' (pyIter v) Q E ⟨hp, gs, dr, tk, os⟩ := fun q => B.iter prog w _ _ ⟨hp, gs, dr, tk, os⟩ _ hB q
  wp_walk using it1
  refine wpAny_stack_any fun st => wpAny_pure ?_
  split
  · rename_i c _ _ _ _ _
    cases (c == Value.type "enumerate") <;> (wp_walk using it1; exact ⟨_, rfl, h⟩)
  · wp_walk using it1
    exact ⟨_, rfl, h⟩
theorem call_enum1 {prog : Program} {w : World} {A : Around} {E : Value → Shared → Prop} {s : Shared} {v : Value} {o : Obj} {Hh : Heap → Prop} {Q : Value → Shared → Prop} (B : Begins v o Hh) (hB : Hh s.heap)
    (h : ∀ h', IsEnum h' (s.heap.objs.size + 1) s.heap.objs.size 0 .none → h'.get? s.heap.objs.size = some o → (∀ b o, s.heap.get? b = some o → h'.get? b = some o) → Q (.ref (s.heap.objs.size + 1)) { s with heap := h' }) :
    wpAny (model prog w) A (call (.type "enumerate") [v]) Q E s := by
  have hz : (s.heap.push o).objs.size = s.heap.objs.size + 1 := Heap.size_push ..
  have he := Heap.get?_push_size (s.heap.push o) (o := { cls := .type "enumerate", data := .fields #[.none, .bool false, .ref s.heap.objs.size, rawInt 0, .none, .none] }) rfl
  rw [hz] at he
  refine callType_new F.called_enumerate (by decide) (F.typeCall_enumerate_1 _) (F.newCall_enumerate_1 _) (fun obj => F.args_object_init_2 obj _) F.entry_enumerate_new (meets_enum1 B) ⟨hB, ?_⟩
  show _ ∧ _
  rw [hz]
  exact ⟨⟨_, he, rfl⟩, h _ he (Heap.get?_push_of_some _ (Heap.get?_push_size _ B.free)) fun b o x => Heap.get?_push_of_some _ (Heap.get?_push_of_some _ x)⟩
def Itet (K : PySem.W.Frag) (a : Addr) : It :=
  ⟨fun i H => ∃ xs x, SqT K H a xs ∧ xs[i]? = some x, fun i H v H' => ∃ T x, v = .ref T ∧ H T = none ∧ H' = upd H T (.tup [.int (i : Nat), x]) ∧ ∀ xs, SqT K H a xs → xs[i]? = some x, fun i H => ∃ xs, SqT K H a xs ∧ xs.length ≤ i⟩
theorem turn_enumT {P : Program} {w : World} {K : PySem.W.Frag} {elts : List Expr} {kk : Nat} {tpos : Pos} (a e it : Addr) :
    Turn P w K (.Tuple elts kk tpos) (Itet K a) [e, it] e (fun i h => (∃ old, IsEnum h e it ((i : Nat) : Int) old) ∧ h.IsTupleIter it a i ∧ e ≠ it) := by
  constructor
  · simp
  · intro i h st b hb
    obtain ⟨⟨old, he⟩, ⟨o, ho, hc, hd⟩, _⟩ := st
    rcases List.mem_cons.mp hb with z | z
    · rw [z]
      exact ⟨_, he, fun v q => nomatch q⟩
    · rw [List.mem_singleton.mp z]
      exact ⟨o, ho, fun v q => by rw [hd] at q; cases q⟩
  · intro i h h' st k
    obtain ⟨⟨old, he⟩, hi, hne⟩ := st
    exact ⟨⟨old, k e (by simp) _ he⟩, hi.at fun o q => k it (by simp) o q, hne⟩
  · intro X hP hW hK hc i pins s σ H E I hf st hg
    subst hP hW hK
    obtain ⟨⟨old, he⟩, hit, hne⟩ := st
    obtain ⟨xs, x, hq, hx⟩ := hg
    obtain ⟨its, rv, p, hz⟩ := I.tuple hq
    obtain ⟨u, hu, ru⟩ := rv.get hx
    have hel : e < s.heap.objs.size := Heap.lt_size he
    have ⟨oi, qi, ci, _⟩ := hit
    have hil : it < s.heap.objs.size := Heap.lt_size qi
    have ⟨ot, qt, ct, _⟩ := p
    have nat_ : a ≠ it := fun z => by
      rw [z, qi] at qt
      cases qt
      rw [ci] at ct
      injection ct with e9
      exact absurd e9 (by decide)
    have nae : e ≠ a := fun z => by
      have he2 : s.heap.get? e = some _ := he
      rw [z, qt] at he2
      cases he2
      injection ct with e9
      exact absurd e9 (by decide)
    have D := Draws.tuple (prog := X.prog) (w := X.w) (A := X.A.in1) (by simp [I.ok.hd hc]) it a nat_ its.toArray
    refine wpAny_pyNext_enum_itemD D he ⟨hit, p⟩ (i := i) (by simpa using (List.getElem?_eq_some_iff.mp hu).1) hne (by simp [hne, nae]) fun y h' tk hy ho st' hT hsz hk => ?_
    obtain rfl : u = y := by
      have hy2 : its[i]? = some y := by simpa using hy
      rw [hu] at hy2
      exact Option.some.inj hy2
    refine ⟨_, rfl, wpAny_letOwnedTupleGo_enum (s := { s with heap := h', toks := tk + 1 }) ho fun h2 he2 sb => ?_⟩
    have hT2 : h2.get? s.heap.objs.size = some { cls := .type "tuple", data := .seq #[.int i tk, u] } := (sb.2 _ (Nat.ne_of_gt hel)).trans hT
    have new : ObjOk X.prog X.w (upd H s.heap.objs.size (.tup [.int (i : Nat), x])) h2 s.heap.objs.size (.tup [.int (i : Nat), x]) :=
      ⟨by show 2 ≤ sizeLine; decide, [.int i tk, u], .cons ⟨_, rfl⟩ (.cons ru .nil), ⟨_, hT2, rfl, _, rfl⟩⟩
    have I1 : Inv X pins σ (upd H s.heap.objs.size (.tup [.int (i : Nat), x])) { s with heap := h2, toks := tk + 1 } :=
      I.turnedNew (ch := [e, it]) (fun b ob hb q => (sb.2 b fun z => hb (by simp [z])).trans (hk b ob (fun z => hb (by simp [z])) (fun z => hb (by simp [z])) q)) hf (Nat.le_refl _) new
    refine ⟨.ref s.heap.objs.size, _, I1, rfl, ⟨_, x, rfl, I.hok.fresh (Nat.le_refl _), rfl, fun ys hy => by rw [I.tuple_inj hy hq]; exact hx⟩, ⟨⟨u, ?_⟩, st'.1.at fun o q => (sb.2 it (Ne.symm hne)).trans q, hne⟩, fun b hb => ?_⟩
    · rw [show ((i + 1 : Nat) : Int) = (i : Int) + 1 by omega]
      exact he2
    · have hb2 : b < s.heap.objs.size := by
        rcases List.mem_cons.mp hb with z | z
        · exact z ▸ hel
        · exact List.mem_singleton.mp z ▸ hil
      rw [upd_ne (Nat.ne_of_lt hb2)]
      exact (hf b hb).1
  · intro X hP hW hK hc i pins s σ H E I hf st hg
    subst hP hW hK
    obtain ⟨⟨old, he⟩, hit, hne⟩ := st
    obtain ⟨xs, hq, hx⟩ := hg
    obtain ⟨its, rv, p, hz⟩ := I.tuple hq
    obtain ⟨f0, f1, f2, f3, f4, f5⟩ := hf it (by simp)
    have hl := rv.length
    have ⟨oi, qi, ci, di⟩ := hit
    have ⟨ot, qt, ct, _⟩ := p
    have nat_ : a ≠ it := fun z => by
      rw [z, qi] at qt
      cases qt
      rw [ci] at ct
      injection ct with e9
      exact absurd e9 (by decide)
    have hh : X.A.in1.in1.handled = none := by simp [I.ok.hd hc]
    have hT : s.TypeIs (.ref e) "enumerate" := ⟨_, he, rfl⟩
    refine wpAny_bind (wpAny_attempt (wpAny_callSpecial?_slot (name := Str.ofString "__next__") hT PySem.F.slot_enumerate_next
      (wpAny_call_entry PySem.F.slot_enumerate_next hT PySem.F.entry_enumerate_next ?_ (PySem.F.args_enumerate_next_1 _))))
    show wpAny _ _ (field (.ref e) 2 >>= _) _ _ _
    refine wpAny_bind (wpAny_field he rfl (x := .ref it) rfl ?_)
    refine wpAny_bind (wpAny_nextOf_tuple_end (i := i) (by simp [I.ok.hd hc]) hit p (by simp; omega) fun h' x he' hx' => ?_)
    obtain ⟨o, ho, hc2⟩ := hx'
    refine wpAny_bind (wpAny_isInstance (T := "StopIteration") (b := true) ⟨o, ho, hc2⟩ isSubtype_stop ?_)
    exact wpAny_pure ⟨rfl, I.turned (t' := s.toks) (fun b o hb q => he' b o hb q) f0 f1 f3 f4 f5⟩
  · intro A i s Q E st h
    obtain ⟨⟨_, he⟩, _⟩ := st
    exact wpAny_pyIter_enum he h
def iEnumT (K : PySem.W.Frag) (ta : TA) : TI := fun σ H R => ta σ H fun vs H1 => ∃ a xs, vs = [.ref a] ∧ SqT K H1 a xs ∧ R (Itet K a) H1
theorem pi_enumT {X : Cx} {e : Expr} {ta : TA} {p pos tpos : Pos} {elts : List Expr} {kk : Nat} (hg : Gl X "enumerate") (hm : X.mg "enumerate" = none) (ha : PA X [e] ta) (hs : starEach [e] X.env = [(false, eval e X.env)] := by rfl) :
    PI X (.Tuple elts kk tpos) (.Call (.Name "enumerate" p) [e] [] pos) (iEnumT X.K ta) := by
  refine ⟨fun pins s σ H R I h => Call_ (ld_blt I hg hm boot_enumerate (PyProof.Rows.callWith_type1 (thn (ha.run pos pins s σ H _ I h) fun us s1 ⟨vs, H1, I1, r1, a, xs, ex, hq, q⟩ => ?_) hs rfl))⟩
  subst ex
  rw [Vals.ref1 r1]
  obtain ⟨its, rv, pt, hz⟩ := I1.tuple hq
  refine call_enum1 (begins_tuple a its.toArray) pt fun h' he hit hk => wpAny_pyIter_enum he ?_
  refine ⟨s1.heap.objs.size + 1, [s1.heap.objs.size + 1, s1.heap.objs.size], _, _, H1, rfl, I1.kept (t' := s1.toks) hk, turn_enumT a (s1.heap.objs.size + 1) s1.heap.objs.size, ⟨⟨.none, he⟩, ⟨_, hit, rfl, rfl⟩, Nat.succ_ne_self _⟩, fun b hb => ?_, q⟩
  have hle : s1.heap.objs.size ≤ b := by
    rcases List.mem_cons.mp hb with z | z
    · rw [z]
      exact Nat.le_succ _
    · rw [List.mem_singleton.mp z]
      exact Nat.le_refl _
  exact I1.fpOk hle (I1.hok.fresh hle)
theorem walk_enumT {K : PySem.W.Frag} {a : Addr} {xs : List V} : Walk (Itet K a) xs.length (fun H => SqT K H a xs) (YPair (fun i => some (.int (i : Nat))) (fun i => xs[i]?)) := by
  refine ⟨fun i _ hi q => ⟨xs, xs[i], q, by simp [hi]⟩, fun _ q => ⟨xs, q, Nat.le_refl _⟩, fun i H v H' _ q y => ?_⟩
  obtain ⟨T, x, h1, h2, h3, h4⟩ := y
  exact ⟨T, .int (i : Nat), x, h1, h2, h3, rfl, h4 xs q⟩
/-! ### d.get(k, x), d a table of the top with text keys -/
def tKGet2 (K : PySem.W.Frag) (d : Addr) (td ty tx : TE) : TE := fun σ H Q => td σ H fun x H1 => x = .ref d ∧ ty σ H1 fun y H2 => tx σ H2 fun z H3 => ∃ (k : Str) (r : Option Value) (v : Option V), y = .str k ∧ PySem.W.nsIn K d k = some r ∧ RelO v r ∧ Q (v.getD z) H3
theorem pe_kget2 {X : Cx} {o e f : Expr} {apos cpos : Pos} {td ty tx : TE} {d : Addr} {es : Array DictEntry} {n : Nat} (D : KDict X.K X.w d es n) (ho : PE X o td) (he : PE X e ty) (hf : PE X f tx) (m : M2 X o "get" apos e f cpos) :
    PE X (.Call (.Attribute o "get" apos) [e, f] [] cpos) (tKGet2 X.K d td ty tx) := by
  refine ⟨fun pins s σ H Q I h => wpAny_Call_method m.base m.few m.line PySem.F.plainAttrs_dict PySem.F.slot_dict_get PySem.F.type_dict_get (thn (ho.run pins s σ H _ I h) fun u s1 ⟨x, H1, I1, rx, ex, q1⟩ => ?_)⟩
  subst ex
  obtain rfl : u = Value.ref d := rx
  refine ⟨kd_type D I1, fun b q => ?_, ?_⟩
  · cases q
    exact ⟨_, I1.kIn _ _ D.at_, rfl⟩
  rw [m.trees]
  refine Calls.callWith_builtin rfl (Calls.evalArgs_plain (Calls.spliced_cons (thn (he.run pins s1 σ H1 _ I1 q1) fun iv s2 ⟨y, H2, I2, ry, q2⟩ => Calls.spliced_cons (thn (hf.run pins s2 σ H2 _ I2 q2) fun fv s3 ⟨z, H3, I3, rz, k, r, v, ey, hk, rv, q3⟩ => Calls.spliced_nil ?_))))
  subst ey
  obtain ⟨t, rfl⟩ := ry
  refine call_meetsIn PySem.F.slot_dict_get (kd_type D I3) PySem.F.entry_dict_get (PySem.F.args_dict_get_3 _ _ _) (meets_dict_get_default (PySem.strKind X.prog X.w) d (PySem.strKind_is X.prog X.w k t) D.low fv)
    ⟨_, PySem.W.mapOf_K (prog := X.prog) I3.kIn D.at_ D.lit, ?_⟩
  rw [PySem.W.find_K D.at_ hk]
  exact ⟨_, H3, I3.tok _, rv.getD rz, q3⟩
end Rc
set_option maxHeartbeats 4000000
/-! What holds of the heap: kinds of values, deeds, the hand; isinstance by kinds; the facts of the top. -/
namespace Rc
open PySem PySem.Spec PyProof.Rows L2
/-! ### heaps -/
theorem same_new {H : Hp} {p : Addr} {o : HO} (h : H p = none) : Same H (upd H p o) := fun b u e => by
  rw [upd_ne (ne_of_none e h)]
  exact e
theorem same_snew {H H' : Hp} {p : Addr} {o : HO} (s : Same H H') (h : H' p = none) : Same H (upd H' p o) := s.trans (same_new h)
/-- the heap without the hand -/
def No (h : Addr) (H : Hp) : Hp := fun b => if b = h then none else H b
theorem no_at {h b : Addr} {H : Hp} (n : b ≠ h) : No h H b = H b := by
  unfold No
  rw [if_neg n]
theorem no_le {h : Addr} {H : Hp} : Same (No h H) H := fun b o e => by
  unfold No at e
  by_cases q : b = h
  · rw [if_pos q] at e
    cases e
  · rw [if_neg q] at e
    exact e
theorem no_ne {h b : Addr} {H : Hp} {o : HO} (e : No h H b = some o) : b ≠ h := fun q => by
  unfold No at e
  rw [if_pos q] at e
  cases e
theorem same_no {H H' : Hp} (s : Same H H') (h : Addr) : Same (No h H) (No h H') := fun b o e => by
  rw [no_at (no_ne e)]
  exact s b o (no_le b o e)
theorem no_write {H : Hp} {h : Addr} {o : HO} : Same (No h H) (No h (upd H h o)) := fun b u e => by
  rw [no_at (no_ne e), upd_ne (no_ne e)]
  exact no_le b u e
theorem no_new {H : Hp} {h p : Addr} {o : HO} (hp : H p = none) : Same (No h H) (No h (upd H p o)) := same_no (same_new hp) h

/-! ### kinds of values -/
/-- what the law may hold: None, flags, ints, texts, tuples, lists, dicts, standings -/
def Kb (C : Addr) (H : Hp) : V → Prop
  | .non => True
  | .bl _ => True
  | .int _ => True
  | .str _ => True
  | .ref a => (∃ xs, H a = some (.tup xs)) ∨ (∃ xs, H a = some (.lst xs)) ∨ (∃ kvs, H a = some (.dK kvs)) ∨ ∃ dx fs, H a = some (.ins C dx fs)
  | _ => False
/-- .. its items, if it is a tuple, too, so many deep -/
def Kn (C : Addr) : Nat → Hp → V → Prop
  | 0, H, v => Kb C H v
  | n + 1, H, v => Kb C H v ∧ ∀ a xs, v = .ref a → H a = some (.tup xs) → ∀ y ∈ xs, Kn C n H y
theorem Kb.same {C : Addr} {H H' : Hp} (s : Same H H') : ∀ {v : V}, Kb C H v → Kb C H' v
  | .non, h => h
  | .bl _, h => h
  | .int _, h => h
  | .str _, h => h
  | .ref a, h => by
    rcases h with ⟨xs, e⟩ | ⟨xs, e⟩ | ⟨kvs, e⟩ | ⟨dx, fs, e⟩
    · exact .inl ⟨xs, s a _ e⟩
    · exact .inr (.inl ⟨xs, s a _ e⟩)
    · exact .inr (.inr (.inl ⟨kvs, s a _ e⟩))
    · exact .inr (.inr (.inr ⟨dx, fs, s a _ e⟩))
  | .byt _, h => h
  | .flt _, h => h
  | .ty _, h => h
theorem Kn.kb {C : Addr} {H : Hp} : ∀ {n : Nat} {v : V}, Kn C n H v → Kb C H v
  | 0, _, h => h
  | _ + 1, _, h => h.1
theorem Kn.same {C : Addr} {H H' : Hp} (s : Same H H') : ∀ {n : Nat} {v : V}, Kn C n H v → Kn C n H' v
  | 0, _, h => Kb.same s h
  | n + 1, v, h => by
    refine ⟨Kb.same s h.1, fun a xs e q y hy => ?_⟩
    have hk := h.1
    rw [e] at hk
    rcases hk with ⟨zs, z⟩ | ⟨zs, z⟩ | ⟨zs, z⟩ | ⟨dx, fs, z⟩
    · have z2 := s a _ z
      rw [q] at z2
      cases z2
      exact Kn.same s (h.2 a xs e z y hy)
    · have z2 := s a _ z
      rw [q] at z2
      cases z2
    · have z2 := s a _ z
      rw [q] at z2
      cases z2
    · have z2 := s a _ z
      rw [q] at z2
      cases z2
theorem Kn.down {C : Addr} {H : Hp} : ∀ {n : Nat} {v : V}, Kn C (n + 1) H v → Kn C n H v
  | 0, _, h => h.1
  | n + 1, _, h => ⟨h.1, fun a xs e q y hy => (h.2 a xs e q y hy).down⟩
theorem kn_int {C : Addr} {H : Hp} (i : Int) : ∀ n, Kn C n H (.int i)
  | 0 => True.intro
  | _ + 1 => ⟨True.intro, fun _ _ e => nomatch e⟩
theorem kn_non {C : Addr} {H : Hp} : ∀ n, Kn C n H .non
  | 0 => True.intro
  | _ + 1 => ⟨True.intro, fun _ _ e => nomatch e⟩
theorem kn_bl {C : Addr} {H : Hp} (b : Bool) : ∀ n, Kn C n H (.bl b)
  | 0 => True.intro
  | _ + 1 => ⟨True.intro, fun _ _ e => nomatch e⟩
theorem kn_str {C : Addr} {H : Hp} (x : Str) : ∀ n, Kn C n H (.str x)
  | 0 => True.intro
  | _ + 1 => ⟨True.intro, fun _ _ e => nomatch e⟩
theorem kn_tup {C : Addr} {H : Hp} {a : Addr} {xs : List V} {n : Nat} (e : H a = some (.tup xs)) (h : ∀ y ∈ xs, Kn C n H y) : Kn C (n + 1) H (.ref a) :=
  ⟨.inl ⟨xs, e⟩, fun b ys q z => by
    cases q
    rw [e] at z
    cases z
    exact h⟩
theorem kn_lst {C : Addr} {H : Hp} {a : Addr} {xs : List V} (e : H a = some (.lst xs)) : ∀ n, Kn C n H (.ref a)
  | 0 => .inr (.inl ⟨xs, e⟩)
  | _ + 1 => ⟨.inr (.inl ⟨xs, e⟩), fun b ys q z => by
    cases q
    rw [e] at z
    cases z⟩
theorem kn_dct {C : Addr} {H : Hp} {a : Addr} {kvs : List (Key × V)} (e : H a = some (.dK kvs)) : ∀ n, Kn C n H (.ref a)
  | 0 => .inr (.inr (.inl ⟨kvs, e⟩))
  | _ + 1 => ⟨.inr (.inr (.inl ⟨kvs, e⟩)), fun b ys q z => by
    cases q
    rw [e] at z
    cases z⟩
theorem kn_ins {C : Addr} {H : Hp} {a dx : Addr} {fs : List (Str × V)} (e : H a = some (.ins C dx fs)) : ∀ n, Kn C n H (.ref a)
  | 0 => .inr (.inr (.inr ⟨dx, fs, e⟩))
  | _ + 1 => ⟨.inr (.inr (.inr ⟨dx, fs, e⟩)), fun b ys q z => by
    cases q
    rw [e] at z
    cases z⟩
def bI : V → Bool
  | .int _ => true
  | .bl _ => true
  | _ => false
def bB : V → Bool
  | .bl _ => true
  | _ => false
def bS : V → Bool
  | .str _ => true
  | _ => false
def bT (H : Hp) : V → Bool
  | .ref a => (match H a with
    | some (.tup _) => true
    | _ => false)
  | _ => false
def tB (o : Option HO) : Bool := match o with
  | some (.tup _) => true
  | _ => false
theorem bT_at {H : Hp} {a : Addr} {o : Option HO} (e : H a = o) : bT H (.ref a) = tB o := by
  show tB (H a) = tB o
  rw [e]
/-- an int that is no flag -/
def isI : V → Bool
  | .int _ => true
  | _ => false
theorem isI_eq (x : V) : (bI x && !bB x) = isI x := by cases x <;> rfl
def within (x : V) (lo hi : Int) : Bool := match x with
  | .int i => decide (lo ≤ i) && decide (i ≤ hi)
  | _ => false
theorem within_int {i lo hi : Int} (h1 : lo ≤ i) (h2 : i ≤ hi) : within (.int i) lo hi = true := by
  show (decide (lo ≤ i) && decide (i ≤ hi)) = true
  rw [decide_eq_true h1, decide_eq_true h2]
  rfl
theorem within_of {x : V} {lo hi : Int} (h : within x lo hi = true) : ∃ i, x = .int i ∧ lo ≤ i ∧ i ≤ hi := by
  cases x with
  | int i =>
    have h1 : (decide (lo ≤ i) && decide (i ≤ hi)) = true := h
    rw [Bool.and_eq_true, decide_eq_true_eq, decide_eq_true_eq] at h1
    exact ⟨i, rfl, h1⟩
  | _ => cases h

/-! ### deeds in the heap -/
def fV : Option Int → V
  | none => .non
  | some i => .int i
abbrev iV (ns : List Int) : List V := ns.map V.int
def DeedAt (H : Hp) (v : V) (d : Deed) : Prop := ∃ p q : Addr, v = .ref p ∧ H p = some (.tup [fV d.1, .int d.2.1, .ref q]) ∧ H q = some (.tup (iV d.2.2))
structure DsAt (H : Hp) (vs : List V) (ds : List Deed) : Prop where
  len : vs.length = ds.length
  at_ : ∀ (i : Nat) (v : V), vs[i]? = some v → ∃ d, ds[i]? = some d ∧ DeedAt H v d
theorem DeedAt.same {H H' : Hp} {v : V} {d : Deed} (s : Same H H') (h : DeedAt H v d) : DeedAt H' v d := by
  obtain ⟨p, q, e, h1, h2⟩ := h
  exact ⟨p, q, e, s _ _ h1, s _ _ h2⟩
theorem DsAt.same {H H' : Hp} {vs : List V} {ds : List Deed} (s : Same H H') (h : DsAt H vs ds) : DsAt H' vs ds :=
  ⟨h.len, fun i v e => by
    obtain ⟨d, e1, e2⟩ := h.at_ i v e
    exact ⟨d, e1, e2.same s⟩⟩
theorem DsAt.get {H : Hp} {vs : List V} {ds : List Deed} (h : DsAt H vs ds) {i : Nat} (hi : i < ds.length) : ∃ v d, vs[i]? = some v ∧ ds[i]? = some d ∧ DeedAt H v d := by
  have hv : i < vs.length := by rw [h.len]; exact hi
  obtain ⟨d, e1, e2⟩ := h.at_ i vs[i] (List.getElem?_eq_getElem hv)
  exact ⟨_, d, List.getElem?_eq_getElem hv, e1, e2⟩
theorem DsAt.nil {H : Hp} : DsAt H [] [] := ⟨rfl, fun i v e => by simp at e⟩
theorem DsAt.snoc {H : Hp} {vs : List V} {ds : List Deed} {v : V} {d : Deed} (h : DsAt H vs ds) (hd : DeedAt H v d) : DsAt H (vs ++ [v]) (ds ++ [d]) := by
  refine ⟨by rw [List.length_append, List.length_append, h.len]; rfl, fun i x e => ?_⟩
  by_cases hi : i < vs.length
  · rw [List.getElem?_append_left hi] at e
    obtain ⟨d', e1, e2⟩ := h.at_ i x e
    exact ⟨d', by rw [List.getElem?_append_left (by rw [← h.len]; exact hi)]; exact e1, e2⟩
  · have hl : i = vs.length := by
      have q := (List.getElem?_eq_some_iff.mp e).1
      rw [List.length_append, List.length_singleton] at q
      omega
    subst hl
    rw [List.getElem?_append_right (Nat.le_refl _), Nat.sub_self] at e
    cases e
    exact ⟨d, by rw [h.len, List.getElem?_append_right (Nat.le_refl _), Nat.sub_self]; rfl, hd⟩
theorem DsAt.set {H : Hp} {vs : List V} {ds : List Deed} {v : V} {d : Deed} (h : DsAt H vs ds) (i : Nat) (hd : DeedAt H v d) : DsAt H (vs.set i v) (ds.set i d) := by
  refine ⟨by rw [List.length_set, List.length_set, h.len], fun j x e => ?_⟩
  by_cases q : i = j
  · subst q
    have hl : i < vs.length := by
      have z := (List.getElem?_eq_some_iff.mp e).1
      rw [List.length_set] at z
      exact z
    rw [List.getElem?_set_self hl] at e
    cases e
    exact ⟨d, List.getElem?_set_self (by rw [← h.len]; exact hl), hd⟩
  · rw [List.getElem?_set_ne q] at e
    obtain ⟨d', e1, e2⟩ := h.at_ j x e
    exact ⟨d', by rw [List.getElem?_set_ne q]; exact e1, e2⟩
/-- the waits of all deeds: a list of tuples -/
structure WsAt (H : Hp) (vs : List V) (W : List (List Int)) : Prop where
  len : vs.length = W.length
  at_ : ∀ (i : Nat) (v : V), vs[i]? = some v → ∃ ws q, W[i]? = some ws ∧ v = .ref q ∧ H q = some (.tup (iV ws))
theorem WsAt.same {H H' : Hp} {vs : List V} {W : List (List Int)} (s : Same H H') (h : WsAt H vs W) : WsAt H' vs W :=
  ⟨h.len, fun i v e => by
    obtain ⟨ws, q, e1, e2, e3⟩ := h.at_ i v e
    exact ⟨ws, q, e1, e2, s _ _ e3⟩⟩
theorem WsAt.get {H : Hp} {vs : List V} {W : List (List Int)} (h : WsAt H vs W) {i : Nat} (hi : i < W.length) : ∃ ws q, W[i]? = some ws ∧ vs[i]? = some (.ref q) ∧ H q = some (.tup (iV ws)) := by
  have hv : i < vs.length := by rw [h.len]; exact hi
  obtain ⟨ws, q, e1, e2, e3⟩ := h.at_ i vs[i] (List.getElem?_eq_getElem hv)
  exact ⟨ws, q, e1, by rw [List.getElem?_eq_getElem hv, e2], e3⟩

/-! ### the hand that draws -/
structure HandAt (H : Hp) (h : Addr) : Prop where
  ex : ∃ (c : Addr) (cs : List Int) (p b s n : Int), H h = some (.lst [.ref c, .int p, .int b, .int s, .int n]) ∧ H c = some (.lst (iV cs)) ∧ c ≠ h ∧ (∀ x ∈ cs, 0 ≤ x) ∧ 0 ≤ p ∧ 0 ≤ b ∧ 0 ≤ s ∧ 0 ≤ n
theorem HandAt.same {H H' : Hp} {h : Addr} (s : Same H H') (x : HandAt H h) : HandAt H' h := by
  obtain ⟨c, cs, p, b, z, n, h1, h2, r⟩ := x
  exact ⟨c, cs, p, b, z, n, s _ _ h1, s _ _ h2, r⟩

/-! ### the facts of the top -/
abbrev E30 : Int := 10 ^ 30
abbrev E40 : Int := 10 ^ 40
def sizeV (z : Str) : Option V := if z = ("row" : Str) then some (.int 4) else if z = ("open" : Str) then some (.int 4) else if z = ("wait" : Str) then some (.int 3) else none
structure Txt (K : PySem.W.Frag) (w : World) (mg : Str → Option Value) (C D : Addr) : Prop where
  b_isinstance : mg "isinstance" = none
  b_int : mg "int" = none
  b_bool : mg "bool" = none
  b_tuple : mg "tuple" = none
  b_str : mg "str" = none
  b_len : mg "len" = none
  b_enumerate : mg "enumerate" = none
  b_list : mg "list" = none
  b_sorted : mg "sorted" = none
  b_range : mg "range" = none
  b_sum : mg "sum" = none
  b_max : mg "max" = none
  b_min : mg "min" = none
  b_set : mg "set" = none
  b_zip : mg "zip" = none
  b_all : mg "all" = none
  b_abs : mg "abs" = none
  cl : Cls K C
  nC : NoAttr K C "cells"
  nH : NoAttr K C "head"
  nD : NoAttr K C "deeds"
  ins : C8.InsC K C
  kI : PySem.W.kitOne K (.ref C) (.type "int") = some false
  kB : PySem.W.kitOne K (.ref C) (.type "bool") = some false
  kT : PySem.W.kitOne K (.ref C) (.type "tuple") = some false
  kS : PySem.W.kitOne K (.ref C) (.type "str") = some false
  mgC : mg "Standing" = some (.ref C)
  mc : ∃ u, mg "MOST_CELLS" = some u ∧ RelV (.int E30) u
  mh : ∃ u, mg "MOST_HEAD" = some u ∧ RelV (.int E40) u
  md : ∃ u, mg "MOST_DEEDS" = some u ∧ RelV (.int 200) u
  row : ∃ u, mg "ROW" = some u ∧ RelV (.str "row") u
  opn : ∃ u, mg "OPEN" = some u ∧ RelV (.str "open") u
  wai : ∃ u, mg "WAIT" = some u ∧ RelV (.str "wait") u
  szs : ∃ u, mg "SIZES" = some u ∧ RelV (.ref D) u
  kd : ∃ es n, KDict K w D es n
  szv : ∀ z : Str, ∃ r, PySem.W.nsIn K D z = some r ∧ RelO (sizeV z) r

/-! ### isinstance -/
section
variable {X : Cx} {C : Addr}
/-- a value's type -/
theorem ty_of {H : Hp} (c : C8.InsC X.K C) : ∀ {x : V}, Kb C H x → ∃ t, TyX X.K H x t ∧
    (t = .type "NoneType" ∧ x = .non ∨ t = .type "bool" ∧ bB x = true ∨ t = .type "int" ∧ isI x = true ∨ t = .type "str" ∧ bS x = true ∨ t = .type "tuple" ∧ bT H x = true ∨ (t = .type "list" ∨ t = .type "dict" ∨ t = .ref C) ∧ (∃ a, x = .ref a) ∧ bT H x = false)
  | .non, _ => ⟨_, .base .non, .inl ⟨rfl, rfl⟩⟩
  | .bl b, _ => ⟨_, .base (.bl b), .inr (.inl ⟨rfl, rfl⟩)⟩
  | .int i, _ => ⟨_, .base (.int i), .inr (.inr (.inl ⟨rfl, rfl⟩))⟩
  | .str z, _ => ⟨_, .base (.str z), .inr (.inr (.inr (.inl ⟨rfl, rfl⟩)))⟩
  | .ref a, h => by
    rcases h with ⟨xs, e⟩ | ⟨xs, e⟩ | ⟨kvs, e⟩ | ⟨dx, fs, e⟩
    · exact ⟨_, .base (.tup e), .inr (.inr (.inr (.inr (.inl ⟨rfl, bT_at e⟩))))⟩
    · exact ⟨_, .base (.lst e), .inr (.inr (.inr (.inr (.inr ⟨.inl rfl, ⟨a, rfl⟩, bT_at e⟩))))⟩
    · exact ⟨_, .base (.dK e), .inr (.inr (.inr (.inr (.inr ⟨.inr (.inl rfl), ⟨a, rfl⟩, bT_at e⟩))))⟩
    · exact ⟨_, .base (.ins e c.cl c.ha c.hn c.htk c.hm), .inr (.inr (.inr (.inr (.inr ⟨.inr (.inr rfl), ⟨a, rfl⟩, bT_at e⟩))))⟩
  | .byt _, h => h.elim
  | .flt _, h => h.elim
  | .ty _, h => h.elim
def rIs (C : Addr) (n : String) (f : Hp → V → Bool) : List V → Hp → VK → Prop := fun xs H Q => ∃ x : V, xs = [x, .ty n] ∧ Kb C H x ∧ Q (.bl (f H x)) H
theorem isi_int (c : C8.InsC X.K C) (k : PySem.W.kitOne X.K (.ref C) (.type "int") = some false) : CallR X (.builtin "isinstance") (rIs C "int" fun _ x => bI x) := by
  intro pins s σ H xs us Q I r h
  obtain ⟨x, rfl, kx, q⟩ := h
  obtain ⟨t, ty, hh⟩ := ty_of c kx
  refine call_isi pins s σ H _ us Q I r ⟨x, _, t, _, bI x, rfl, .ty "int", ty, ?_, q⟩
  rcases hh with ⟨rfl, rfl⟩ | ⟨rfl, e⟩ | ⟨rfl, e⟩ | ⟨rfl, e⟩ | ⟨rfl, e⟩ | ⟨t3, ⟨a, rfl⟩, e⟩
  · first | exact kit_ty (r := true) (by decide +kernel) | exact kit_ty (r := false) (by decide +kernel)
  · cases x <;> first | (cases e; done) | exact kit_ty (r := true) (by decide +kernel) | exact kit_ty (r := false) (by decide +kernel)
  · cases x <;> first | (cases e; done) | exact kit_ty (r := true) (by decide +kernel) | exact kit_ty (r := false) (by decide +kernel)
  · cases x <;> first | (cases e; done) | exact kit_ty (r := true) (by decide +kernel) | exact kit_ty (r := false) (by decide +kernel)
  · cases x <;> first | (cases e; done) | exact kit_ty (r := true) (by decide +kernel) | exact kit_ty (r := false) (by decide +kernel)
  · rcases t3 with rfl | rfl | rfl
    · first | exact kit_ty (r := true) (by decide +kernel) | exact kit_ty (r := false) (by decide +kernel)
    · first | exact kit_ty (r := true) (by decide +kernel) | exact kit_ty (r := false) (by decide +kernel)
    · exact k
theorem isi_bool (c : C8.InsC X.K C) (k : PySem.W.kitOne X.K (.ref C) (.type "bool") = some false) : CallR X (.builtin "isinstance") (rIs C "bool" fun _ x => bB x) := by
  intro pins s σ H xs us Q I r h
  obtain ⟨x, rfl, kx, q⟩ := h
  obtain ⟨t, ty, hh⟩ := ty_of c kx
  refine call_isi pins s σ H _ us Q I r ⟨x, _, t, _, bB x, rfl, .ty "bool", ty, ?_, q⟩
  rcases hh with ⟨rfl, rfl⟩ | ⟨rfl, e⟩ | ⟨rfl, e⟩ | ⟨rfl, e⟩ | ⟨rfl, e⟩ | ⟨t3, ⟨a, rfl⟩, e⟩
  · first | exact kit_ty (r := true) (by decide +kernel) | exact kit_ty (r := false) (by decide +kernel)
  · cases x <;> first | (cases e; done) | exact kit_ty (r := true) (by decide +kernel) | exact kit_ty (r := false) (by decide +kernel)
  · cases x <;> first | (cases e; done) | exact kit_ty (r := true) (by decide +kernel) | exact kit_ty (r := false) (by decide +kernel)
  · cases x <;> first | (cases e; done) | exact kit_ty (r := true) (by decide +kernel) | exact kit_ty (r := false) (by decide +kernel)
  · cases x <;> first | (cases e; done) | exact kit_ty (r := true) (by decide +kernel) | exact kit_ty (r := false) (by decide +kernel)
  · rcases t3 with rfl | rfl | rfl
    · first | exact kit_ty (r := true) (by decide +kernel) | exact kit_ty (r := false) (by decide +kernel)
    · first | exact kit_ty (r := true) (by decide +kernel) | exact kit_ty (r := false) (by decide +kernel)
    · exact k
theorem isi_str (c : C8.InsC X.K C) (k : PySem.W.kitOne X.K (.ref C) (.type "str") = some false) : CallR X (.builtin "isinstance") (rIs C "str" fun _ x => bS x) := by
  intro pins s σ H xs us Q I r h
  obtain ⟨x, rfl, kx, q⟩ := h
  obtain ⟨t, ty, hh⟩ := ty_of c kx
  refine call_isi pins s σ H _ us Q I r ⟨x, _, t, _, bS x, rfl, .ty "str", ty, ?_, q⟩
  rcases hh with ⟨rfl, rfl⟩ | ⟨rfl, e⟩ | ⟨rfl, e⟩ | ⟨rfl, e⟩ | ⟨rfl, e⟩ | ⟨t3, ⟨a, rfl⟩, e⟩
  · first | exact kit_ty (r := true) (by decide +kernel) | exact kit_ty (r := false) (by decide +kernel)
  · cases x <;> first | (cases e; done) | exact kit_ty (r := true) (by decide +kernel) | exact kit_ty (r := false) (by decide +kernel)
  · cases x <;> first | (cases e; done) | exact kit_ty (r := true) (by decide +kernel) | exact kit_ty (r := false) (by decide +kernel)
  · cases x <;> first | (cases e; done) | exact kit_ty (r := true) (by decide +kernel) | exact kit_ty (r := false) (by decide +kernel)
  · cases x <;> first | (cases e; done) | exact kit_ty (r := true) (by decide +kernel) | exact kit_ty (r := false) (by decide +kernel)
  · rcases t3 with rfl | rfl | rfl
    · first | exact kit_ty (r := true) (by decide +kernel) | exact kit_ty (r := false) (by decide +kernel)
    · first | exact kit_ty (r := true) (by decide +kernel) | exact kit_ty (r := false) (by decide +kernel)
    · exact k
theorem isi_tup (c : C8.InsC X.K C) (k : PySem.W.kitOne X.K (.ref C) (.type "tuple") = some false) : CallR X (.builtin "isinstance") (rIs C "tuple" bT) := by
  intro pins s σ H xs us Q I r h
  obtain ⟨x, rfl, kx, q⟩ := h
  obtain ⟨t, ty, hh⟩ := ty_of c kx
  refine call_isi pins s σ H _ us Q I r ⟨x, _, t, _, bT H x, rfl, .ty "tuple", ty, ?_, q⟩
  rcases hh with ⟨rfl, rfl⟩ | ⟨rfl, e⟩ | ⟨rfl, e⟩ | ⟨rfl, e⟩ | ⟨rfl, e⟩ | ⟨t3, _, e⟩
  · first | exact kit_ty (r := true) (by decide +kernel) | exact kit_ty (r := false) (by decide +kernel)
  · cases x <;> first | (cases e; done) | exact kit_ty (r := true) (by decide +kernel) | exact kit_ty (r := false) (by decide +kernel)
  · cases x <;> first | (cases e; done) | exact kit_ty (r := true) (by decide +kernel) | exact kit_ty (r := false) (by decide +kernel)
  · cases x <;> first | (cases e; done) | exact kit_ty (r := true) (by decide +kernel) | exact kit_ty (r := false) (by decide +kernel)
  · rw [e]
    first | exact kit_ty (r := true) (by decide +kernel) | exact kit_ty (r := false) (by decide +kernel)
  · rw [e]
    rcases t3 with rfl | rfl | rfl
    · first | exact kit_ty (r := true) (by decide +kernel) | exact kit_ty (r := false) (by decide +kernel)
    · first | exact kit_ty (r := true) (by decide +kernel) | exact kit_ty (r := false) (by decide +kernel)
    · exact k
end
end Rc
set_option maxHeartbeats 4000000
/-! Calls of the text's own defs by their promises. -/
namespace Rc
open PySem PySem.Spec PyProof.Rows L2
/-- a def under its name, as it stands behind the top -/
structure Df (K : PySem.W.Frag) (mg : Str → Option Value) (x : Str) (st : Stmt) (f : Addr) : Prop where
  ex : ∃ fd, FnP K x x st f fd
  mgf : mg x = some (.ref f)
/-- a def that keeps its promise, by its address and name -/
structure CalF (P : Program) (w : World) (K : PySem.W.Frag) (mg : Str → Option Value) (base : Heap) (k : Nat) (f : Addr) (x : Str) (sp : Sp) : Prop where
  ex : ∃ (fd : FuncData) (ps : List Str), FnOk P w K mg base CX0 k f fd ps sp ∧ PySem.W.keepIn K (.ref f) = true ∧ Binds K fd ps []
  mgf : mg x = some (.ref f)
def Cal (P : Program) (w : World) (K : PySem.W.Frag) (mg : Str → Option Value) (base : Heap) (k : Nat) (x : Str) (sp : Sp) : Prop := ∃ f, CalF P w K mg base k f x sp
theorem CalF.val {P : Program} {w : World} {K : PySem.W.Frag} {mg : Str → Option Value} {base : Heap} {k : Nat} {f : Addr} {x : Str} {sp : Sp} (c : CalF P w K mg base k f x sp) : ∃ u, mg x = some u ∧ RelV (.ref f) u := ⟨_, c.mgf, rfl⟩
section
variable {P : Program} {w : World} {K : PySem.W.Frag} {mg : Str → Option Value} {base : Heap}
/-- a def by its body -/
theorem calF_of {x : Str} {st : Stmt} {f : Addr} {N ps : List Str} {k : Nat} {sp : Sp} (D : Df K mg x st f) (S : FnScope N ps (defScope st)) (len : ∀ vs H Q E, sp vs H Q E → vs.length = ps.length)
    (hb : ∀ (kV doc pm : Value) (an : Option Addr) (cdv ct : Value) (us : List Value), us.length = ps.length → bindArgs (PySem.W.fnOf x x (defArgs st) (defBody st) (defScope st) .none kV doc pm an cdv ct) ⟨us, []⟩ = pure (ps.zip us))
    (hbody : ∀ (cdv : Value) (A : Around) (outer : List Env) (s : Shared) (H : Hp) (vs : List V) (Q : VK) (E : XK), Room k (A.deeper (envOfC x (defScope st) s.heap.objs.size f cdv)) → sp vs H Q E →
      ∃ t, PSs (cxOf CX0 P w K mg base N x (defScope st) f cdv A outer s H E).nox (defBody st) t ∧ t { nx := fun _ H' => Q .non H', rt := Q } (start N vs) H) : CalF P w K mg base (k + 1) f x sp := by
  obtain ⟨fd, F⟩ := D.ex
  refine ⟨⟨fd, ps, F.ok S len fun cdv A outer s H vs Q E hr hsp => ?_, F.kp, F.bindsN hb⟩, D.mgf⟩
  obtain ⟨t, h, q⟩ := hbody cdv A outer s H vs Q E hr hsp
  exact ⟨t, h.nox, q⟩
end
def tU (sp : Sp) (t : TA) : TE := fun σ H Q => t σ H fun vs H1 => sp vs H1 Q E0
section
variable {X : Cx} {k j : Nat} {x : Str} {sp : Sp} {p pos : Pos} {e : Expr} {es : List Expr} {t : TA}
/-- a call by name -/
theorem pe_u (c : Cal X.prog X.w X.K X.mg X.base k x sp) (hr : Room j X.A) (hk : k ≤ j) (hg : Gl X x) (ha : PA X (e :: es) t)
    (hdb : (x == ("__debug__" : Str)) = false := by decide) (he : starEach (e :: es) X.env = (false, eval e X.env) :: starEach es X.env := by rfl) (hpl : (backTo pos (starEach es X.env)).any (·.1) = false := by rfl) :
    PE X (.Call (.Name x p) (e :: es) [] pos) (tU sp t) := by
  obtain ⟨f, ⟨fd, ps, F, kp, b⟩, hm⟩ := c
  refine ⟨fun pins s σ H Q I h => (pe_call (sp := sp) F (hr.mono hk) hg hm kp b .nil pass0 ha hdb he hpl).run pins s σ H Q I ?_⟩
  have e0 : (fun (vs : List V) (H1 : Hp) => sp (vs ++ []) H1 Q E0) = fun vs H1 => sp vs H1 Q E0 := by
    funext vs H1
    rw [List.append_nil]
  show t σ H (fun vs H1 => sp (vs ++ []) H1 Q E0)
  rw [e0]
  exact h
/-- a class with its __init__'s promise -/
structure MakS (P : Program) (w : World) (K : PySem.W.Frag) (mg : Str → Option Value) (base : Heap) (k : Nat) (x : Str) (C : Addr) (sp : Sp) : Prop where
  ex : ∃ (f : Addr) (fd : FuncData) (ps : List Str), Mk K C f ∧ FnOk P w K mg base CX0 k f fd ps sp ∧ mg x = some (.ref C) ∧ Binds K fd ps []
def tMk (C : Addr) (sp : Sp) (t : TA) : TE := fun σ H Q => t σ H fun vs H1 => ∀ x dx, H1 x = none → H1 dx = none → dx ≠ x → sp (.ref x :: vs) (upd (upd H1 dx (.own x)) x (.ins C dx [])) (fun v H2 => v = .non ∧ Q (.ref x) H2) E0
theorem pe_mkS {C : Addr} (c : MakS X.prog X.w X.K X.mg X.base k x C sp) (hr : Room j X.A) (hk : k + 1 ≤ j) (hg : Gl X x) (ha : PA X (e :: es) t)
    (hdb : (x == ("__debug__" : Str)) = false := by decide) (he : starEach (e :: es) X.env = (false, eval e X.env) :: starEach es X.env := by rfl) (hpl : (backTo pos (starEach es X.env)).any (·.1) = false := by rfl) :
    PE X (.Call (.Name x p) (e :: es) [] pos) (tMk C sp t) := by
  obtain ⟨f, fd, ps, M, F, hm, b⟩ := c.ex
  refine ⟨fun pins s σ H Q I h => (pe_make (sp := sp) M F (hr.mono hk) hg hm b .nil pass0 ha hdb he hpl).run pins s σ H Q I ?_⟩
  have e0 : (fun (vs : List V) (H1 : Hp) => ∀ x dx, H1 x = none → H1 dx = none → dx ≠ x → sp (.ref x :: (vs ++ [])) (upd (upd H1 dx (.own x)) x (.ins C dx [])) (fun v H2 => v = .non ∧ Q (.ref x) H2) E0) =
      fun vs H1 => ∀ x dx, H1 x = none → H1 dx = none → dx ≠ x → sp (.ref x :: vs) (upd (upd H1 dx (.own x)) x (.ins C dx [])) (fun v H2 => v = .non ∧ Q (.ref x) H2) E0 := by
    funext vs H1
    rw [List.append_nil]
  show t σ H (fun vs H1 => ∀ x dx, H1 x = none → H1 dx = none → dx ≠ x → sp (.ref x :: (vs ++ [])) (upd (upd H1 dx (.own x)) x (.ins C dx [])) (fun v H2 => v = .non ∧ Q (.ref x) H2) E0)
  rw [e0]
  exact h
/-- a call of a local name that holds some def -/
def tCallJ (P : Program) (w : World) (K : PySem.W.Frag) (mg : Str → Option Value) (base : Heap) (k i : Nat) (t : TA) : TE := fun σ H Q => ∃ (f : Addr) (sp : Sp), σ[i]? = some (some (.ref f)) ∧ (∃ x, CalF P w K mg base k f x sp) ∧ t σ H fun vs H1 => sp vs H1 Q E0
theorem pe_callJ {i : Nat} (hr : Room k X.A) (hN : X.N[i]? = some x) (hv : Vis X.env.scope x) (ha : PA X (e :: es) t)
    (hdb : (x == ("__debug__" : Str)) = false := by decide) (hcd : (x == ("__classdict__" : Str)) = false := by decide)
    (he : starEach (e :: es) X.env = (false, eval e X.env) :: starEach es X.env := by rfl) (hpl : (backTo pos (starEach es X.env)).any (·.1) = false := by rfl) : PE X (.Call (.Name x p) (e :: es) [] pos) (tCallJ X.prog X.w X.K X.mg X.base k i t) := by
  refine ⟨fun pins s σ H Q I h => ?_⟩
  obtain ⟨f, sp, hs, ⟨y, c⟩, ht⟩ := h
  refine (pe_callA (i := i) (S := fun g => if g = f then some sp else none) (fun g q z => ?_) hr hN hv ha hdb hcd he hpl).run pins s σ H Q I ⟨f, sp, hs, if_pos rfl, ht⟩
  by_cases eg : g = f
  · rw [if_pos eg] at z
    cases z
    subst eg
    obtain ⟨fd, ps, F, kp, b⟩ := c.ex
    exact ⟨fd, ps, F, kp, b⟩
  · rw [if_neg eg] at z
    cases z
/-- over a list or a tuple -/
def iSeq (K : PySem.W.Frag) (tl : TE) : TI := fun σ H R => tl σ H fun x H1 => ∃ a, x = .ref a ∧ (((∃ xs, SqL K H1 a xs) ∧ R (Itl K a) H1) ∨ ((∃ xs, SqT K H1 a xs) ∧ R (Itt K a) H1))
theorem pi_seq {tg l : Expr} {tl : TE} (hl : PE X l tl) : PI X tg l (iSeq X.K tl) := by
  refine ⟨fun pins s σ H R I h => thn (hl.run pins s σ H _ I h) fun v s1 ⟨x, H1, I1, r1, a, ex, q⟩ => ?_⟩
  subst ex
  cases r1
  have fp : ∀ b ∈ [s1.heap.objs.size], FpOk X pins H1 b := fun b hb => by
    obtain rfl := List.mem_singleton.mp hb
    exact I1.fpOk (Nat.le_refl _) (I1.hok.fresh (Nat.le_refl _))
  rcases q with ⟨⟨xs, hq⟩, q⟩ | ⟨⟨xs, hq⟩, q⟩
  · obtain ⟨its, rv, p, hz⟩ := I1.list hq
    exact wpAny_pyIter_list p.isList ⟨s1.heap.objs.size, [s1.heap.objs.size], _, _, H1, rfl, I1.kept (t' := s1.toks) fun b o e => Heap.get?_push_of_some _ e, turn_list a _, ⟨_, Heap.get?_push_size _ rfl, rfl, rfl⟩, fp, q⟩
  · obtain ⟨its, rv, p, hz⟩ := I1.tuple hq
    exact wpAny_pyIter_tuple (show s1.heap.IsTuple a its.toArray from p) ⟨s1.heap.objs.size, [s1.heap.objs.size], _, _, H1, rfl, I1.kept (t' := s1.toks) fun b o e => Heap.get?_push_of_some _ e, turn_tuple a _, ⟨_, Heap.get?_push_size _ rfl, rfl, rfl⟩, fp, q⟩
end
/-! ### the built-in names -/
theorem bt_isinstance : bootBuiltins "isinstance" = some (.builtin "isinstance") := by decide +kernel
theorem bt_len : bootBuiltins "len" = some (.builtin "len") := by decide +kernel
theorem bt_sorted : bootBuiltins "sorted" = some (.builtin "sorted") := by decide +kernel
theorem bt_sum : bootBuiltins "sum" = some (.builtin "sum") := by decide +kernel
theorem bt_max : bootBuiltins "max" = some (.builtin "max") := by decide +kernel
theorem bt_min : bootBuiltins "min" = some (.builtin "min") := by decide +kernel
theorem bt_all : bootBuiltins "all" = some (.builtin "all") := by decide +kernel
theorem bt_abs : bootBuiltins "abs" = some (.builtin "abs") := by decide +kernel
theorem bt_int : bootBuiltins "int" = some (.type "int") := by decide +kernel
theorem bt_bool : bootBuiltins "bool" = some (.type "bool") := by decide +kernel
theorem bt_tuple : bootBuiltins "tuple" = some (.type "tuple") := by decide +kernel
theorem bt_str : bootBuiltins "str" = some (.type "str") := by decide +kernel
theorem bt_list : bootBuiltins "list" = some (.type "list") := by decide +kernel
theorem bt_set : bootBuiltins "set" = some (.type "set") := by decide +kernel
end Rc
set_option maxHeartbeats 4000000
/-! The promises of the program's own defs. -/
namespace Rc
open PySem PySem.Spec PyProof.Rows L2
/-! ### checks -/
def spInteger (C : Addr) : Sp := fun vs H Q _ => ∃ x : V, vs = [x] ∧ Kb C H x ∧ Q (.bl (isI x)) H
def spWithin (C : Addr) : Sp := fun vs H Q _ => ∃ (x : V) (lo hi : Int), vs = [x, .int lo, .int hi] ∧ Kb C H x ∧ Q (.bl (within x lo hi)) H
def spNumber (C : Addr) : Sp := fun vs H Q _ => ∃ (x : V) (hi : Int), vs = [x, .int hi] ∧ Kb C H x ∧ Q (.bl (within x 0 hi)) H
def spTriple : Sp := fun vs H Q _ => ∃ (p : Addr) (xs : List V), vs = [.ref p] ∧ H p = some (.tup xs) ∧ xs.length = 3 ∧ Q (.bl true) H
def intOf : V → Int
  | .int i => i
  | _ => 0
/-- ascending numbers above the last, below m -/
def lotL (m : Int) : Int → List V → Bool
  | _, [] => true
  | last, x :: r => within x (last + 1) (m - 1) && lotL m (intOf x) r
def tupO (o : Option HO) : Option (List V) := match o with
  | some (.tup xs) => some xs
  | _ => none
/-- the items of a tuple -/
def tupOf (H : Hp) : V → Option (List V)
  | .ref a => tupO (H a)
  | _ => none
theorem tupOf_at {H : Hp} {a : Addr} {xs : List V} (e : H a = some (.tup xs)) : tupOf H (.ref a) = some xs := by
  show tupO (H a) = some xs
  rw [e]
  rfl
theorem tupOf_some {H : Hp} {x : V} {xs : List V} (h : tupOf H x = some xs) : ∃ a, x = .ref a ∧ H a = some (.tup xs) := by
  cases x with
  | ref a =>
    have h2 : tupO (H a) = some xs := h
    cases e : H a with
    | none =>
      rw [e] at h2
      cases h2
    | some o =>
      rw [e] at h2
      cases o with
      | tup ys =>
        cases h2
        exact ⟨a, rfl, e⟩
      | _ => cases h2
  | _ => cases h
theorem bT_tup {H : Hp} {x : V} : bT H x = (tupOf H x).isSome := by
  cases x with
  | ref a =>
    show tB (H a) = (tupO (H a)).isSome
    cases H a with
    | none => rfl
    | some o => cases o <;> rfl
  | _ => rfl
def lotB (m : Int) (H : Hp) (x : V) : Bool := match tupOf H x with
  | some xs => lotL m (-1) xs
  | none => false
def spLot (C : Addr) : Sp := fun vs H Q _ => ∃ (x : V) (m : Int), vs = [x, .int m] ∧ Kn C 1 H x ∧ Q (.bl (lotB m H x)) H

theorem lotL_asc {m : Int} : ∀ (ws : List Int) (l : Int), Asc ws → (∀ x ∈ ws, l < x) → (∀ x ∈ ws, x < m) → lotL m l (iV ws) = true
  | [], _, _, _, _ => rfl
  | y :: r, l, ha, h1, h2 => by
    obtain ⟨a1, a2⟩ := List.pairwise_cons.mp ha
    have b1 := h1 y (List.mem_cons_self ..)
    have b2 := h2 y (List.mem_cons_self ..)
    show (within (.int y) (l + 1) (m - 1) && lotL m y (iV r)) = true
    rw [within_int (by omega) (by omega), lotL_asc r y a2 a1 fun x hx => h2 x (List.mem_cons_of_mem _ hx)]
    rfl
theorem lotL_lot {m : Int} : ∀ (xs : List V) (l : Int), lotL m l xs = true → ∃ ws : List Int, xs = iV ws ∧ Asc ws ∧ ∀ x ∈ ws, l < x ∧ x < m
  | [], l, _ => ⟨[], rfl, List.Pairwise.nil, fun x hx => by cases hx⟩
  | y :: r, l, h => by
    have h1 : (within y (l + 1) (m - 1) && lotL m (intOf y) r) = true := h
    rw [Bool.and_eq_true] at h1
    obtain ⟨i, rfl, b1, b2⟩ := within_of h1.1
    obtain ⟨ws, rfl, a, b⟩ := lotL_lot r i h1.2
    refine ⟨i :: ws, rfl, List.pairwise_cons.mpr ⟨fun x hx => (b x hx).1, a⟩, fun x hx => ?_⟩
    rcases List.mem_cons.mp hx with e | hx
    · rw [e]
      omega
    · have := b x hx
      omega
theorem all_flat (ws : List Int) : (iV ws).all flatV = true := List.all_eq_true.mpr fun y hy => by
  obtain ⟨i, _, rfl⟩ := List.mem_map.mp hy
  rfl
theorem inV_int (x : Int) : ∀ ws : List Int, inV (.int x) (iV ws) = decide (x ∈ ws)
  | [] => by simp [inV]
  | y :: r => by
    have ih := inV_int x r
    have st : inV (.int x) (iV (y :: r)) = ((y == x) || inV (.int x) (iV r)) := rfl
    rw [st, ih]
    by_cases e : x = y
    · subst e
      simp
    · have e2 : (y == x) = false := by simpa using fun z => e z.symm
      rw [e2, Bool.false_or]
      simp [e]

/-! ### standings -/
def spFirstBehind : Sp := fun vs H Q _ => ∃ (head : Int) (l : V) (f : Option Int), vs = [.int head, l, fV f] ∧ (∀ i, f = some i → ∃ j, l = .int j ∧ j + 1 ≤ i ∧ i ≤ head - 1) ∧ Q (.bl true) H
def spIsWaits : Sp := fun vs H Q _ => ∃ (many deed : Int) (q : Addr) (ws : List Int), vs = [.int many, .int deed, .ref q] ∧ H q = some (.tup (iV ws)) ∧ Asc ws ∧ (∀ x ∈ ws, 0 ≤ x ∧ x < many) ∧ deed ∉ ws ∧ Q (.bl true) H
/-- the firsts ascend -/
def FAsc (ds : List Deed) : Prop := ∀ (i j : Nat) (d e : Deed) (f g : Int), i < j → ds[i]? = some d → ds[j]? = some e → d.1 = some f → e.1 = some g → f < g
/-- the first k have written, the others not -/
def Pre (ds : List Deed) (k : Nat) : Prop := k ≤ ds.length ∧ ∀ (i : Nat) (d : Deed), ds[i]? = some d → (d.1.isSome = true ↔ i < k)
/-- the waits are few lots below n -/
structure Good (ds : List Deed) : Prop where
  inr : ∀ ws ∈ waitsL ds, InR ds.length ws
  asc : ∀ ws ∈ waitsL ds, Asc ws
  few : ∃ U : List Int, U.length < 63 ∧ ∀ ws ∈ waitsL ds, ∀ x ∈ ws, x ∈ U
/-- right deeds below a head -/
structure WF (head : Int) (ds : List Deed) : Prop where
  h0 : 0 ≤ head
  h1 : head ≤ E40
  pre : ∃ k, Pre ds k
  fst : ∀ (i : Nat) (d : Deed) (f : Int), ds[i]? = some d → d.1 = some f → 0 ≤ f ∧ f < head
  asc : FAsc ds
  need : ∀ d ∈ ds, 0 ≤ d.2.1 ∧ d.2.1 ≤ E30
  good : Good ds
  nr : NoRing (waitsL ds)
  len : ds.length ≤ 200
def Room0 (cells head : Int) (ds : List Deed) : Prop := ∀ (d : Deed) (f : Int), ds[0]? = some d → d.1 = some f → head - f ≤ cells
def spFirstWrong : Sp := fun vs H Q _ => ∃ (head : Int) (a : Addr) (xs : List V) (ds : List Deed), vs = [.int head, .ref a] ∧ H a = some (.tup xs) ∧ DsAt H xs ds ∧ WF head ds ∧ ∀ H', Same H H' → Q .non H'
def spWaited : Sp := fun vs H Q _ => ∃ (w l : Addr) (xs : List V) (W : List (List Int)) (S U : List Int), vs = [.ref w, .ref l] ∧ H w = some (.lst xs) ∧ WsAt H xs W ∧ H l = some (.tup (iV S)) ∧ S.Nodup ∧
  (U.length < 64 ∧ (∀ x ∈ S, x ∈ U) ∧ ∀ ws ∈ W, ∀ x ∈ ws, x ∈ U) ∧ InR W.length S ∧ (∀ ws ∈ W, InR W.length ws) ∧
  ∀ (H' : Hp) (p : Addr) (L : List Int), Same H H' → H' p = some (.tup (iV L)) → (∀ x : Int, x ∈ L ↔ Reach W S x) → Q (.ref p) H'
def spFirstRing : Sp := fun vs H Q _ => ∃ (w : Addr) (xs : List V) (W : List (List Int)) (U : List Int), vs = [.ref w] ∧ H w = some (.lst xs) ∧ WsAt H xs W ∧ (U.length < 64 ∧ ∀ ws ∈ W, ∀ x ∈ ws, x ∈ U) ∧ (∀ ws ∈ W, InR W.length ws) ∧ (∀ ws ∈ W, Asc ws) ∧ NoRing W ∧
  ∀ H', Same H H' → Q .non H'
def spTooFar : Sp := fun vs H Q _ => ∃ (cells head : Int) (a : Addr) (xs : List V) (ds : List Deed), vs = [.int cells, .int head, .ref a] ∧ H a = some (.tup xs) ∧ DsAt H xs ds ∧ Room0 cells head ds ∧ Q (.bl false) H
/-- the attributes of a standing -/
def stF (c h : V) (a : V) : List (Str × V) := [("cells", c), ("head", h), ("deeds", a)]
def spInit (C : Addr) : Sp := fun vs H Q _ => ∃ (s dx : Addr) (cells head : Int) (a : Addr) (xs : List V) (ds : List Deed), vs = [.ref s, .int cells, .int head, .ref a] ∧ H s = some (.ins C dx []) ∧ H a = some (.tup xs) ∧ DsAt H xs ds ∧
  (1 ≤ cells ∧ cells ≤ E30) ∧ WF head ds ∧ Room0 cells head ds ∧
  ∀ H' : Hp, H' s = some (.ins C dx (stF (.int cells) (.int head) (.ref a))) → (∀ b o, b ≠ s → H b = some o → H' b = some o) → Q .non H'
def StAt (C : Addr) (H : Hp) (s : Addr) (cells head : Int) (a : Addr) : Prop := ∃ dx, H s = some (.ins C dx (stF (.int cells) (.int head) (.ref a)))
/-- a standing, its deeds told -/
def StD (C : Addr) (H : Hp) (s : Addr) (cells head : Int) (ds : List Deed) : Prop := ∃ (a : Addr) (xs : List V), StAt C H s cells head a ∧ H a = some (.tup xs) ∧ DsAt H xs ds
theorem StAt.same {C : Addr} {H H' : Hp} {s : Addr} {cells head : Int} {a : Addr} (e : Same H H') (h : StAt C H s cells head a) : StAt C H' s cells head a := by
  obtain ⟨dx, h⟩ := h
  exact ⟨dx, e _ _ h⟩
theorem StD.same {C : Addr} {H H' : Hp} {s : Addr} {cells head : Int} {ds : List Deed} (e : Same H H') (h : StD C H s cells head ds) : StD C H' s cells head ds := by
  obtain ⟨a, xs, h1, h2, h3⟩ := h
  exact ⟨a, xs, h1.same e, e _ _ h2, h3.same e⟩
def spRaw (C : Addr) : Sp := fun vs H Q _ => ∃ (cells head : Int) (a : Addr) (xs : List V), vs = [.int cells, .int head, .ref a] ∧ (H a = some (.lst xs) ∨ H a = some (.tup xs)) ∧ xs.length ≤ 1000 ∧
  ∀ (H' : Hp) (s b : Addr), Same H H' → StAt C H' s cells head b → H' b = some (.tup xs) → Q (.ref s) H'
def spWaitsOf (C : Addr) : Sp := fun vs H Q _ => ∃ (s : Addr) (cells head : Int) (ds : List Deed), vs = [.ref s] ∧ StD C H s cells head ds ∧ ds.length ≤ 1000 ∧
  ∀ (H' : Hp) (p : Addr) (ys : List V), Same H H' → H' p = some (.lst ys) → WsAt H' ys (waitsL ds) → Q (.ref p) H'

/-! ### wishes -/
def spDeed (C : Addr) : Sp := fun vs H Q _ => ∃ (s : Addr) (cells head : Int) (ds : List Deed) (x : V), vs = [.ref s, x] ∧ StD C H s cells head ds ∧ Kb C H x ∧ Q (.bl (within x 0 ((ds.length : Int) - 1))) H
def rowB (n : Nat) (a b c : V) : Bool := within a 0 ((n : Int) - 1) && (within b 1 E30 && within c 0 E30)
def openB (n : Nat) (H : Hp) (a b c : V) : Bool := decide (n < 200) && (within a 0 E30 && (within b 0 E30 && lotB (n : Int) H c))
/-- deed d may wait for o, too -/
def WaitOk (ds : List Deed) (a b : V) : Prop := ∃ (d o : Nat) (x : Deed), a = .int (d : Int) ∧ b = .int (o : Int) ∧ ds[d]? = some x ∧ o < ds.length ∧ d ≠ o ∧ (o : Int) ∉ x.2.2 ∧ ¬ Reach (waitsL ds) [(o : Int)] (d : Int)
noncomputable def waitB (ds : List Deed) (a b : V) : Bool := @decide (WaitOk ds a b) (Classical.propDecidable _)
def spRowW (C : Addr) : Sp := fun vs H Q _ => ∃ (s : Addr) (cells head : Int) (ds : List Deed) (t : Addr) (w a b c : V), vs = [.ref s, .ref t] ∧ StD C H s cells head ds ∧ H t = some (.tup [w, a, b, c]) ∧ Kb C H a ∧ Kb C H b ∧ Kb C H c ∧ Q (.bl (rowB ds.length a b c)) H
def spOpenW (C : Addr) : Sp := fun vs H Q _ => ∃ (s : Addr) (cells head : Int) (ds : List Deed) (t : Addr) (w a b c : V), vs = [.ref s, .ref t] ∧ StD C H s cells head ds ∧ H t = some (.tup [w, a, b, c]) ∧ Kb C H a ∧ Kb C H b ∧ Kn C 1 H c ∧ Q (.bl (openB ds.length H a b c)) H
def spWaitW (C : Addr) : Sp := fun vs H Q _ => ∃ (s : Addr) (cells head : Int) (ds : List Deed) (t : Addr) (w a b : V), vs = [.ref s, .ref t] ∧ StD C H s cells head ds ∧ ds.length ≤ 200 ∧ Good ds ∧ H t = some (.tup [w, a, b]) ∧ Kb C H a ∧ Kb C H b ∧
  ∀ H', Same H H' → Q (.bl (waitB ds a b)) H'
noncomputable def dueW (ds : List Deed) (H : Hp) (w : Str) : List V → Bool
  | [a, b, c] => if w = ("row" : Str) then rowB ds.length a b c else if w = ("open" : Str) then openB ds.length H a b c else false
  | [a, b] => if w = ("wait" : Str) then waitB ds a b else false
  | _ => false
noncomputable def dueT (ds : List Deed) (H : Hp) : List V → Bool
  | .str w :: r => dueW ds H w r
  | _ => false
/-- whether a thing is a wish -/
noncomputable def dueB (ds : List Deed) (H : Hp) (x : V) : Bool := match tupOf H x with
  | some xs => dueT ds H xs
  | none => false
def spIsWish (C : Addr) : Sp := fun vs H Q _ => ∃ (s : Addr) (cells head : Int) (ds : List Deed) (x : V), vs = [.ref s, x] ∧ StD C H s cells head ds ∧ ds.length ≤ 200 ∧ Good ds ∧ Kn C 2 H x ∧ ∀ H', Same H H' → Q (.bl (dueB ds H x)) H'
def spCheckWish (C : Addr) : Sp := fun vs H Q _ => ∃ (s : Addr) (cells head : Int) (ds : List Deed) (x : V), vs = [.ref s, x] ∧ StD C H s cells head ds ∧ ds.length ≤ 200 ∧ Good ds ∧ Kn C 2 H x ∧ dueB ds H x = true ∧ ∀ H', Same H H' → Q .non H'

/-! ### behind a wish -/
def posOf (order : List Int) (x : Int) : Int := (order.idxOf x : Nat)
def renumW (order ws : List Int) : List Int := isort ((ws.filter fun x => decide (x ∈ order)).map (posOf order))
def renum1 (order : List Int) (d : Deed) : Deed := (d.1, d.2.1, renumW order d.2.2)
def renum (ds : List Deed) (order : List Int) : List Deed := order.map fun i => renum1 order (ds.getD i.toNat noDeed)
def started (ds : List Deed) (i : Nat) : Bool := (ds.getD i noDeed).1.isSome
def natI (l : List Nat) : List Int := l.map fun i : Nat => (i : Int)
def agedL (ds : List Deed) : List Int := natI ((List.range ds.length).filter (started ds)) ++ natI ((List.range ds.length).filter fun i => !started ds i)
def after (ds : List Deed) : List Deed := renum ds (agedL ds)
def writtenN (ds : List Deed) : Nat := (ds.filter fun d => d.1.isSome).length
def spRenum : Sp := fun vs H Q _ => ∃ (a o : Addr) (xs : List V) (ds : List Deed) (order : List Int), vs = [.ref a, .ref o] ∧ H a = some (.lst xs) ∧ DsAt H xs ds ∧ H o = some (.lst (iV order)) ∧ order.Nodup ∧ InR ds.length order ∧ ds.length ≤ 1000 ∧ (∀ ws ∈ waitsL ds, ws.length ≤ 1000) ∧
  ∀ (H' : Hp) (p : Addr) (ys : List V), Same H H' → H' p = some (.tup ys) → DsAt H' ys (renum ds order) → Q (.ref p) H'
def spWritten : Sp := fun vs H Q _ => ∃ (a : Addr) (xs : List V) (ds : List Deed), vs = [.ref a] ∧ (H a = some (.lst xs) ∨ H a = some (.tup xs)) ∧ DsAt H xs ds ∧ ds.length ≤ 1000 ∧ ∀ H', Same H H' → Q (.int (writtenN ds : Nat)) H'
inductive Wish where
  | row (d : Nat) (c nd : Int)
  | opn (c nd : Int) (ws : List Int)
  | wai (d o : Nat)
def more : Wish → Int
  | .row _ c _ => c
  | .opn c _ _ => c
  | .wai _ _ => 0
def stepD (head : Int) (ds : List Deed) : Wish → List Deed
  | .row d _ nd => ds.set d (some ((ds.getD d noDeed).1.getD head), nd, (ds.getD d noDeed).2.2)
  | .opn c nd ws => ds ++ [(if 0 < c then some head else none, nd, ws)]
  | .wai d o => ds.set d ((ds.getD d noDeed).1, (ds.getD d noDeed).2.1, isort ((ds.getD d noDeed).2.2 ++ [(o : Int)]))
def WishOk (ds : List Deed) : Wish → Prop
  | .row d c nd => d < ds.length ∧ 1 ≤ c ∧ c ≤ E30 ∧ 0 ≤ nd ∧ nd ≤ E30
  | .opn c nd ws => 0 ≤ c ∧ c ≤ E30 ∧ 0 ≤ nd ∧ nd ≤ E30 ∧ ds.length < 200 ∧ Asc ws ∧ InR ds.length ws
  | .wai d o => d < ds.length ∧ o < ds.length ∧ (o : Int) ∉ (ds.getD d noDeed).2.2
def WishAt (H : Hp) (t : Addr) : Wish → Prop
  | .row d c nd => H t = some (.tup [.str "row", .int (d : Nat), .int c, .int nd])
  | .opn c nd ws => ∃ q, H t = some (.tup [.str "open", .int c, .int nd, .ref q]) ∧ H q = some (.tup (iV ws))
  | .wai d o => H t = some (.tup [.str "wait", .int (d : Nat), .int (o : Nat)])
theorem WishAt.same {H H' : Hp} (e : Same H H') {t : Addr} : ∀ {w : Wish}, WishAt H t w → WishAt H' t w
  | .row _ _ _, h => e _ _ h
  | .opn _ _ _, ⟨q, h1, h2⟩ => ⟨q, e _ _ h1, e _ _ h2⟩
  | .wai _ _, h => e _ _ h
def spBRow (C : Addr) : Sp := fun vs H Q _ => ∃ (s : Addr) (cells head : Int) (ds : List Deed) (d : Nat) (c nd : Int), vs = [.ref s, .int (d : Nat), .int c, .int nd] ∧ StD C H s cells head ds ∧ WF head ds ∧ WishOk ds (.row d c nd) ∧
  ∀ (H' : Hp) (s' : Addr), Same H H' → StD C H' s' cells (head + c) (after (stepD head ds (.row d c nd))) → Q (.ref s') H'
def spBOpen (C : Addr) : Sp := fun vs H Q _ => ∃ (s : Addr) (cells head : Int) (ds : List Deed) (c nd : Int) (q : Addr) (ws : List Int), vs = [.ref s, .int c, .int nd, .ref q] ∧ StD C H s cells head ds ∧ WF head ds ∧ WishOk ds (.opn c nd ws) ∧ H q = some (.tup (iV ws)) ∧
  ∀ (H' : Hp) (s' : Addr), Same H H' → StD C H' s' cells (head + c) (after (stepD head ds (.opn c nd ws))) → Q (.ref s') H'
def spBWait (C : Addr) : Sp := fun vs H Q _ => ∃ (s : Addr) (cells head : Int) (ds : List Deed) (d o : Nat), vs = [.ref s, .int (d : Nat), .int (o : Nat)] ∧ StD C H s cells head ds ∧ WF head ds ∧ WishOk ds (.wai d o) ∧
  ∀ (H' : Hp) (s' : Addr), Same H H' → StD C H' s' cells head (after (stepD head ds (.wai d o))) → Q (.ref s') H'
def spBOf (C : Addr) : Sp := fun vs H Q _ => ∃ (s : Addr) (cells head : Int) (ds : List Deed) (t : Addr) (w : Wish), vs = [.ref s, .ref t] ∧ StD C H s cells head ds ∧ WF head ds ∧ WishAt H t w ∧ WishOk ds w ∧
  ∀ (H' : Hp) (s' : Addr), Same H H' → StD C H' s' cells (head + more w) (after (stepD head ds w)) → Q (.ref s') H'
def spBehind (C : Addr) : Sp := fun vs H Q _ => ∃ (s : Addr) (cells head : Int) (ds : List Deed) (t : Addr) (w : Wish), vs = [.ref s, .ref t] ∧ StD C H s cells head ds ∧ WF head ds ∧ Kn C 2 H (.ref t) ∧ dueB ds H (.ref t) = true ∧ WishAt H t w ∧ WishOk ds w ∧
  ∀ (H' : Hp) (s' : Addr), Same H H' → StD C H' s' cells (head + more w) (after (stepD head ds w)) → Q (.ref s') H'
end Rc
/-! Plain mathematics of numbering anew. -/
namespace Rc
theorem pos_idx {l : List Int} {x : Int} (h : x ∈ l) : ∃ i : Nat, l[i]? = some x ∧ posOf l x = i ∧ i < l.length := by
  have hl : l.idxOf x < l.length := List.idxOf_lt_length_iff.mpr h
  refine ⟨l.idxOf x, ?_, rfl, hl⟩
  rw [List.getElem?_eq_getElem hl, List.getElem_idxOf]
theorem posOf_get {l : List Int} (hn : l.Nodup) {x : Int} {i : Nat} (h : l[i]? = some x) : posOf l x = i := by
  obtain ⟨j, e1, e2, e3⟩ := pos_idx (List.mem_of_getElem? h)
  rw [e2]
  obtain ⟨a1, a2⟩ := List.getElem?_eq_some_iff.mp e1
  obtain ⟨b1, b2⟩ := List.getElem?_eq_some_iff.mp h
  have := (List.getElem_inj hn).mp (a2.trans b2.symm)
  omega
theorem posOf_range {n : Nat} {x : Int} (h : 0 ≤ x ∧ x < (n : Int)) : posOf (rangeI n) x = x := by
  have e : ((x.toNat : Nat) : Int) = x := by omega
  have := posOf_get (asc_range n).nodup (x := x) (i := x.toNat) (by rw [rangeI_get (by omega), e])
  rw [this, e]
theorem renumW_range {n : Nat} {ws : List Int} (a : Asc ws) (r : InR n ws) : renumW (rangeI n) ws = ws := by
  unfold renumW
  have e1 : (ws.filter fun x => decide (x ∈ rangeI n)) = ws := List.filter_eq_self.mpr fun x hx => decide_eq_true (mem_rangeI.mpr (r x hx))
  rw [e1]
  have e2 : ws.map (posOf (rangeI n)) = ws := by
    conv => rhs; rw [← List.map_id ws]
    exact List.map_congr_left fun x hx => posOf_range (r x hx)
  rw [e2]
  exact isort_of a.le
theorem renum_range {ds : List Deed} (a : ∀ ws ∈ waitsL ds, Asc ws) (r : ∀ ws ∈ waitsL ds, InR ds.length ws) : renum ds (rangeI ds.length) = ds := by
  unfold renum
  refine List.ext_getElem (by rw [List.length_map, rangeI_length]) fun i h1 h2 => ?_
  rw [List.getElem_map]
  have e : (rangeI ds.length)[i]'(by rw [rangeI_length]; exact h2) = (i : Int) := by
    have := rangeI_get h2
    rw [List.getElem?_eq_some_iff] at this
    exact this.2
  rw [e]
  have e2 : ds.getD ((i : Int)).toNat noDeed = ds[i] := by
    rw [List.getD_eq_getElem?_getD, Int.toNat_natCast, List.getElem?_eq_getElem h2]
    rfl
  rw [e2]
  have hm : ds[i].2.2 ∈ waitsL ds := List.mem_map_of_mem (List.getElem_mem h2)
  unfold renum1
  rw [renumW_range (a _ hm) (r _ hm)]
theorem started_iff {ds : List Deed} {i : Nat} (h : i < ds.length) : started ds i = (ds[i]).1.isSome := by
  unfold started
  rw [List.getD_eq_getElem?_getD, List.getElem?_eq_getElem h]
  rfl
theorem filter_all {p : Nat → Bool} {l : List Nat} (h : ∀ x ∈ l, p x = true) : l.filter p = l := List.filter_eq_self.mpr h
theorem filter_none {p : Nat → Bool} {l : List Nat} (h : ∀ x ∈ l, p x = false) : l.filter p = [] := List.filter_eq_nil_iff.mpr fun x hx e => by
  rw [h x hx] at e
  cases e
theorem range_cut (k d : Nat) (h : k ≤ d) : List.range d = List.range k ++ List.range' k (d - k) := by
  rw [List.range_eq_range', List.range_eq_range']
  have := @List.range'_append_1 0 k (d - k)
  rw [Nat.zero_add] at this
  rw [this]
  congr 1
  omega
theorem range_cut3 (k d n : Nat) (h : k ≤ d) (hn : d < n) : List.range n = (List.range k ++ List.range' k (d - k)) ++ d :: List.range' (d + 1) (n - d - 1) := by
  rw [← range_cut k d h, range_cut d n (by omega)]
  congr 1
  have : n - d = (n - d - 1) + 1 := by omega
  rw [this, List.range'_succ]
  congr 1
/-- all that have begun stand first -/
theorem aged_pre {ds : List Deed} {k : Nat} (h : Pre ds k) : agedL ds = rangeI ds.length := by
  have st : ∀ i, i < ds.length → (started ds i = true ↔ i < k) := fun i hi => by
    rw [started_iff hi]
    exact h.2 i ds[i] (List.getElem?_eq_getElem hi)
  have a : ∀ x ∈ List.range k, started ds x = true := fun x hx => (st x (by have := List.mem_range.mp hx; have := h.1; omega)).mpr (List.mem_range.mp hx)
  have b : ∀ x ∈ List.range' k (ds.length - k), started ds x = false := fun x hx => by
    have := List.mem_range'_1.mp hx
    have h1 := h.1
    refine Bool.eq_false_iff.mpr fun z => ?_
    have := (st x (by omega)).mp z
    omega
  unfold agedL natI rangeI
  rw [range_cut k ds.length h.1, List.filter_append, List.filter_append, filter_all a, filter_none b, filter_none fun x hx => by rw [a x hx]; rfl, filter_all fun x hx => by rw [b x hx]; rfl, ← List.map_append, List.append_nil, List.nil_append]
/-- one more has begun: it comes behind the k -/
theorem aged_one {ds : List Deed} {k d : Nat} (hk : k ≤ d) (hd : d < ds.length) (st : ∀ i, i < ds.length → (started ds i = true ↔ i < k ∨ i = d)) :
    agedL ds = ((rangeI ds.length).eraseIdx d).take k ++ [(d : Int)] ++ ((rangeI ds.length).eraseIdx d).drop k := by
  have a : ∀ x ∈ List.range k, started ds x = true := fun x hx => (st x (by have := List.mem_range.mp hx; omega)).mpr (.inl (List.mem_range.mp hx))
  have b : ∀ x ∈ List.range' k (d - k), started ds x = false := fun x hx => by
    have := List.mem_range'_1.mp hx
    refine Bool.eq_false_iff.mpr fun z => ?_
    have := (st x (by omega)).mp z
    omega
  have c : started ds d = true := (st d hd).mpr (.inr rfl)
  have e : ∀ x ∈ List.range' (d + 1) (ds.length - d - 1), started ds x = false := fun x hx => by
    have := List.mem_range'_1.mp hx
    refine Bool.eq_false_iff.mpr fun z => ?_
    have := (st x (by omega)).mp z
    omega
  have hr : rangeI ds.length = (natI (List.range k) ++ natI (List.range' k (d - k))) ++ (d : Int) :: natI (List.range' (d + 1) (ds.length - d - 1)) := by
    unfold rangeI natI
    rw [range_cut3 k d ds.length hk hd, List.map_append, List.map_append, List.map_cons]
  have lA : (natI (List.range k)).length = k := by unfold natI; rw [List.length_map, List.length_range]
  have lAB : (natI (List.range k) ++ natI (List.range' k (d - k))).length = d := by
    rw [List.length_append, lA]
    unfold natI
    rw [List.length_map, List.length_range']
    omega
  have he : (rangeI ds.length).eraseIdx d = natI (List.range k) ++ (natI (List.range' k (d - k)) ++ natI (List.range' (d + 1) (ds.length - d - 1))) := by
    rw [hr, List.eraseIdx_append_of_length_le (by rw [lAB]; exact Nat.le_refl _), lAB, Nat.sub_self, List.eraseIdx_cons_zero, List.append_assoc]
  rw [he, List.take_append_of_le_length (by rw [lA]; exact Nat.le_refl _), List.drop_append_of_le_length (by rw [lA]; exact Nat.le_refl _), List.take_of_length_le (by rw [lA]; exact Nat.le_refl _), List.drop_of_length_le (by rw [lA]; exact Nat.le_refl _), List.nil_append]
  unfold agedL
  rw [range_cut3 k d ds.length hk hd]
  rw [List.filter_append, List.filter_append, List.filter_append, List.filter_append, filter_all a, filter_none b, filter_none (p := fun i => !started ds i) fun x hx => by rw [a x hx]; rfl, filter_all (p := fun i => !started ds i) fun x hx => by rw [b x hx]; rfl]
  rw [List.filter_cons, if_pos c, filter_none e, List.filter_cons, if_neg (by rw [c]; decide), filter_all (p := fun i => !started ds i) fun x hx => by rw [e x hx]; rfl]
  unfold natI
  rw [List.append_nil, List.nil_append, List.map_append, List.map_append]
  simp only [List.append_assoc]
  rfl
theorem written_pre : ∀ {ds : List Deed} {k : Nat}, Pre ds k → writtenN ds = k
  | [], k, h => by
    have := h.1
    have e : k = 0 := Nat.le_zero.mp this
    rw [e]
    rfl
  | d :: r, 0, h => by
    unfold writtenN
    rw [List.length_eq_zero_iff.mpr]
    refine List.filter_eq_nil_iff.mpr fun x hx => ?_
    obtain ⟨i, hi, e⟩ := List.getElem_of_mem hx
    have := (h.2 i x (by rw [List.getElem?_eq_getElem hi, e]))
    intro z
    have := this.mp z
    omega
  | d :: r, k + 1, h => by
    have h0 : d.1.isSome = true := (h.2 0 d rfl).mpr (Nat.succ_pos _)
    have ih : writtenN r = k := written_pre ⟨by have := h.1; rw [List.length_cons] at this; omega, fun i x hx => by
      have := h.2 (i + 1) x hx
      rw [this]
      omega⟩
    unfold writtenN at ih ⊢
    rw [List.filter_cons, if_pos h0, List.length_cons, ih]
end Rc
set_option maxHeartbeats 4000000
/-! x = {k: v for ..} on one line, x a local: the value goes straight to the name. -/
namespace Rc
open PySem PySem.Spec PyProof.Rows L2
section
variable {X : Cx}
theorem ps_setDc {i : Nat} {y : Str} {py : Pos} {kx vx tg iter : Expr} {ifs : List Expr} {scope : Scope} {own : List (Str × Nat)} {pos spos : Pos} {wi : TI} {g : TG} {tt : TT} {tk tv : TE} (hc : X.calm = true) (hy : X.N[i]? = some y) (hyl : X.env.scope.names.lookup y = some .local)
    (hsw : swapsWith (.DictComp kx vx [⟨tg, iter, ifs, 0⟩] scope pos) (some (.Name y py)) spos.line X.env = pure true) (hN : X.N.Nodup) (hi : PI X tg iter wi) (ok : BlkOk X.N X.env.scope scope own)
    (hg : ∀ (s : Shared) (H : Hp) (C : Addr) (cl : List (Str × Addr)) (fp : List Addr), PG (X.blk s H scope (compEnvC scope cl C X.env) fp) tg g) (ht : ∀ (s : Shared) (H : Hp) (C : Addr) (cl : List (Str × Addr)) (fp : List Addr), PTs (X.blk s H scope (compEnvC scope cl C X.env) fp) ifs tt)
    (hk : ∀ (s : Shared) (H : Hp) (C : Addr) (cl : List (Str × Addr)) (fp : List Addr), PE (X.blk s H scope (compEnvC scope cl C X.env) fp) kx tk)
    (he : ∀ (s : Shared) (H : Hp) (C : Addr) (cl : List (Str × Addr)) (fp : List Addr), PE (X.blk s H scope (compEnvC scope cl C X.env) fp) vx tv) (hs : ∀ x, foldedSetIterable iter X.env x = pure x := by intro _; rfl) :
    PS X (.Assign [.Name y py] (.DictComp kx vx [⟨tg, iter, ifs, 0⟩] scope pos) spos) (tAsg (tDc wi g tt tk tv (own.map (·.2))) (gName i)) := by
  refine ⟨fun pins s σ H D I h => ?_⟩
  rw [exec_Assign_Name_used _ _ _ _ hsw]
  refine wpAny_bind (wpAny_standAt (wpAny_bind ?_))
  show wpAny _ X.A (do let _ ← comprehension (.DictComp kx vx [⟨tg, iter, ifs, 0⟩] scope pos) scope X.env (firstIterPos [⟨tg, iter, ifs, 0⟩] pos) newDict false (eval iter X.env) (some (assign (.Name y py) X.env))) _ _ s
  have h : tDc wi g tt tk tv (own.map (·.2)) σ H (fun x H1 => gName i x σ H1 D.nx) := h
  refine wpAny_bind (thn (dc_core (Qf := fun _ s' => SP X pins D .next s') hc hN I hi ok hg ht hk he hs h fun L C s' m H' I' q hn f => ?_) fun _ s' hq => wpAny_pure (wpAny_pure hq))
  show wpAny _ _ (assign (.Name y py) X.env (.ref L)) _ _ _
  refine wpAny_assign_Name (store_ok2 (v := V.ref L) I' hN hy (.inl hyl) rfl (fun s2 I2 ⟨a, sb, ha⟩ => ?_) (.inr hyl))
  obtain ⟨f0, f1, f2, f3, f4, f5⟩ := f
  have haC : C ≠ a := by
    rcases ha with z | z
    · rw [z]; exact f1
    · exact fun e => f4 y a z e.symm
  refine ⟨m, hn.sameBut sb haC, fun h3 sb3 => ?_⟩
  exact ⟨_, H', I2.turned (t' := s2.toks) (fun b o hb e => (sb3.2 b hb).trans e) f0 f1 f3 f4 f5, q⟩
theorem sw_trueD {kx vx : Expr} {gs : List Comprehension} {scope : Scope} {pos py : Pos} {y : Str} {l : Nat} {env : Env} (hk : env.scope.kind = .function) (hy : env.scope.names.lookup y = some .local) (hl : (py.line == pos.line) = true)
    (ha : (scope.names.any fun (n, k) => n == y && (k == .local || k == .cell)) = false) : swapsWith (.DictComp kx vx gs scope pos) (some (.Name y py)) l env = pure true := by
  have ky : env.kindOf y = some .local := hy
  have hb : env.blockKind = .function := by unfold Env.blockKind; rw [hk]; rfl
  unfold swapsWith
  simp only [hb, ky, ha, Expr.pos, hl]
  rfl
variable {J : It} {n : Nat} {G : Hp → Prop} {Y : Nat → Hp → V → Hp → Prop}
/-- a dict comprehension over any walk -/
theorem dc_it (w : Walk J n G Y) {g : TG} {tt : TT} {tk tv : TE} {vs : List Nat} {σ : L2.St} {H1 : Hp} {D : Addr} {Qd : Hp → Prop} (Pv : Nat → Hp → Prop) (h0 : Pv 0 (upd H1 D (.dK []))) (hG : ∀ i H, i ≤ n → Pv i H → G H)
    (hs : ∀ i x H H', i < n → Pv i H → Y i H x H' → g x (wipe σ vs) H' fun σ2 H2 => wipe σ2 vs = wipe σ vs ∧ tt σ2 H2 fun b H3 =>
      if b = true then tk σ2 H3 fun y H4 => tv σ2 H4 fun z H5 => ∃ kvs k, y = kV k ∧ H5 D = some (.dK kvs) ∧ kvs.length < sizeLine ∧ Pv (i + 1) (upd H5 D (.dK (putK kvs k z))) else Pv (i + 1) H3) (hd : ∀ H, Pv n H → Qd H) :
    ∃ W : Nat → Nat → Hp → Prop, (∃ m, W 0 m (upd H1 D (.dK []))) ∧ ∀ i m H, W i m H →
      (J.stop i H ∧ Qd H) ∨ (J.go i H ∧ ∃ Nx : Hp → Prop, (∀ H', Nx H' → ∃ m', m' < m ∧ W (i + 1) m' H') ∧ ∀ x H', J.yld i H x H' → g x (wipe σ vs) H' fun σ2 H2 => wipe σ2 vs = wipe σ vs ∧ tt σ2 H2 fun b H3 =>
        if b = true then tk σ2 H3 fun y H4 => tv σ2 H4 fun z H5 => ∃ kvs k, y = kV k ∧ H5 D = some (.dK kvs) ∧ kvs.length < sizeLine ∧ Nx (upd H5 D (.dK (putK kvs k z))) else Nx H3) := by
  refine ⟨fun i m H => m = n - i ∧ i ≤ n ∧ Pv i H, ⟨n, by simp, Nat.zero_le _, h0⟩, ?_⟩
  rintro i m H ⟨rfl, hi, p⟩
  have q := hG i H hi p
  by_cases hlt : i < n
  · refine .inr ⟨w.goes i H hlt q, Pv (i + 1), fun H' p' => ⟨n - (i + 1), by omega, rfl, hlt, p'⟩, fun x H' y => hs i x H H' hlt p (w.yields i H x H' hlt q y)⟩
  · have e : i = n := by omega
    subst e
    exact .inl ⟨w.stops H q, hd H p⟩
end
end Rc
set_option maxHeartbeats 4000000
/-! Rules of the layer with the frame named (within a comprehension's block the frame must not speak of the block). -/
namespace Rc
open PySem PySem.Spec PyProof.Rows L2
section
variable {X : Cx} (K : PySem.W.Frag) (h : X.K = K)
include h
theorem ixT_K : IxR X (rIxT K) := h ▸ ix_tup
theorem ixL_K : IxR X (rIxL K) := h ▸ ix_list
theorem inS_K : OpR X (compareOp .In) (rIn K false) := h ▸ op_in_seq
theorem ninS_K : OpR X (compareOp .NotIn) (rIn K true) := h ▸ op_notIn_seq
theorem index_K : MtR X "list.index" (rIndex K) := h ▸ mt_index
theorem len_K : CallR X (.builtin "len") (fun xs H Q => ∃ p ys, xs = [.ref p] ∧ (SqL K H p ys ∨ SqT K H p ys) ∧ Q (.int ys.length) H) := h ▸ call_len_seq
theorem pg_tupK {es : List Expr} {k : Nat} {pos : Pos} {t : TGs} {n : Nat} (hc : X.calm = true) (hp : PGs X es t)
    (hn : (assignEach es X.env).length = n := by rfl) (hst : (assignEach es X.env).findIdx? (·.1) = none := by rfl) : PG X (.Tuple es k pos) (gTup K n t) := h ▸ pg_tup hc hp hn hst
theorem pe_bmK {T : String} {name : Str} {id : String} {r : V → List V → Hp → VK → Prop} {o e : Expr} {es : List Expr} {apos cpos : Pos} {to : TE} {t : TA} (pa : PlainAttrs T) (slot : Slot T name id) (hty : typeOf (.builtin id) = pure (.type "method_descriptor")) (hm : MtR X id r) (ho : PE X o to) (ha : PA X (e :: es) t)
    (hbase : attributeBase o name X.env (eval o X.env) = eval o X.env := by rfl)
    (hfew : ((backTo cpos (starEach (e :: es) X.env)).all (fun x => !x.1) && (backToKw cpos (keywordEach [] X.env)).all (fun x => x.1.isSome)
      && decide ((e :: es).length + ([] : List Keyword).length + (if ([] : List Keyword).isEmpty then 0 else 1) < 30)) = true := by rfl)
    (hline : (apos.endLine == cpos.line) = true := by rfl)
    (hs : starEach (e :: es) X.env = (false, eval e X.env) :: starEach es X.env := by rfl)
    (hpl : (backTo cpos (starEach es X.env)).any (·.1) = false := by rfl) : PE X (.Call (.Attribute o name apos) (e :: es) [] cpos) (tBM K T r to t) := by
  subst h
  first
    | exact pe_bm pa slot hty hm ho ha hbase hfew hline hs hpl
    | exact pe_bm pa slot hty hm ho ha
end
section
variable {X : Cx}
/-- a + b, tuples: some tuple of both -/
def rCatJ : R2 := fun x y H Q => ∃ a b xs ys, x = .ref a ∧ y = .ref b ∧ H a = some (.tup xs) ∧ H b = some (.tup ys) ∧ xs.length + ys.length ≤ sizeLine ∧ ∀ (p : Addr) (H' : Hp), Same H H' → H' p = some (.tup (xs ++ ys)) → Q (.ref p) H'
theorem op_catJ : OpR X (binaryOp .Add) rCatJ := by
  intro pins s σ H x y v u Q I rx ry h
  obtain ⟨a, b, xs, ys, rfl, rfl, ha, hb, hl, q⟩ := h
  refine op_catA pins s σ H _ _ v u Q I rx ry ⟨a, b, xs, ys, rfl, rfl, SqT.of ha, SqT.of hb, hl, fun e => q b H (Same.refl _) ?_, fun _ e => q a H (Same.refl _) ?_, fun _ _ p hp => q p _ (same_new hp) upd_same⟩
  · rw [e]
    exact hb
  · rw [e, List.append_nil]
    exact ha
/-- a[i:j], a tuple: some tuple of the part -/
def rSlJ : V → Option Int → Option Int → Hp → VK → Prop := fun x lo hi H Q => ∃ a xs, x = .ref a ∧ H a = some (.tup xs) ∧ ∀ (p : Addr) (H' : Hp), Same H H' → H' p = some (.tup (cutV xs lo hi)) → Q (.ref p) H'
theorem sl_tupJ : SlR X rSlJ := by
  intro pins s σ H x v vl vu lo hi sl Q I rx hs pl pu h
  obtain ⟨a, xs, rfl, ha, q⟩ := h
  refine sl_tupA pins s σ H _ v vl vu lo hi sl Q I rx hs pl pu ⟨a, xs, rfl, SqT.of ha, fun e => q a H (Same.refl _) ?_, fun _ p hp => q p _ (same_new hp) upd_same⟩
  rw [ha]
  congr 2
  unfold cutV
  rw [e.1, e.2, List.drop_zero, Nat.sub_zero, List.take_length]
/-- tuple(x), x a list or a tuple: some tuple of the items -/
def rTupJ : List V → Hp → VK → Prop := fun xs H Q => ∃ a ys, xs = [.ref a] ∧ (H a = some (.lst ys) ∨ H a = some (.tup ys)) ∧ ∀ (p : Addr) (H' : Hp), Same H H' → H' p = some (.tup ys) → Q (.ref p) H'
theorem call_tupJ : CallR X (.type "tuple") rTupJ := by
  intro pins s σ H xs us Q I r h
  obtain ⟨a, ys, rfl, ha, q⟩ := h
  refine call_tuple_of pins s σ H _ us Q I r ⟨a, ys, rfl, ?_⟩
  rcases ha with ha | ha
  · exact .inl ⟨SqL.of ha, fun l hl => q l _ (same_new hl) upd_same⟩
  · exact .inr ⟨SqT.of ha, q a H (Same.refl _) ha⟩
end
end Rc
set_option maxHeartbeats 4000000
namespace Rc
open PySem PySem.Spec PyProof.Rows L2
section
variable {P : Program} {w : World} {K : PySem.W.Frag} {mg : Str → Option Value} {base : Heap} {C D : Addr}
/-! checks: is_integer, is_within, is_number, is_triple, is_lot, is_first_behind, is_waits -/
theorem c_is_integer {f : Addr} (T : Txt K w mg C D) (df : Df K mg "is_integer" s_is_integer f)   : CalF P w K mg base 1 f "is_integer" (spInteger C) := by
  refine calF_of df sc_is_integer (fun vs H Q E h => ?_) (fun _ _ _ _ _ _ us hl => match us, hl with | [_], _ => rfl) (fun cdv A outer s H vs Q E hr h => ?_)
  · obtain ⟨x, rfl, _⟩ := h
    rfl
  · obtain ⟨x, rfl, kx, q⟩ := h
    refine ⟨_, (pss_one (ps_ret (pe_and (pe_callB (isi_int T.ins T.kI) (by rfl) T.b_isinstance bt_isinstance (pa_cons (pv 0) (pa_cons (pe_bltn (v := .ty "int") (by rfl) T.b_int bt_int rfl) pa_nil))) (pe_one (pe_not (pe_callB (isi_bool T.ins T.kB) (by rfl) T.b_isinstance bt_isinstance (pa_cons (pv 0) (pa_cons (pe_bltn (v := .ty "bool") (by rfl) T.b_bool bt_bool rfl) pa_nil)))))))), ?_⟩
    refine ⟨_, rfl, x, rfl, kx, _, rfl, ?_⟩
    refine ite2 (fun hb => ?_) (fun hb => ?_)
    · refine ⟨_, rfl, x, rfl, kx, _, rfl, ?_⟩
      have hb2 : bI x = true := hb
      have e : isI x = !bB x := by rw [← isI_eq, hb2, Bool.true_and]
      rw [e] at q
      exact q
    · have hb2 : bI x = false := Bool.eq_false_iff.mpr hb
      have e : isI x = false := by rw [← isI_eq, hb2, Bool.false_and]
      rw [e] at q
      exact q
theorem c_is_within {f : Addr} (T : Txt K w mg C D) (df : Df K mg "is_within" s_is_within f) (c_is_integer : Cal P w K mg base 1 "is_integer" (spInteger C))  : CalF P w K mg base 2 f "is_within" (spWithin C) := by
  refine calF_of df sc_is_within (fun vs H Q E h => ?_) (fun _ _ _ _ _ _ us hl => match us, hl with | [_, _, _], _ => rfl) (fun cdv A outer s H vs Q E hr h => ?_)
  · obtain ⟨x, lo, hi, rfl, _⟩ := h
    rfl
  · obtain ⟨x, lo, hi, rfl, kx, q⟩ := h
    refine ⟨_, (pss_one (ps_ret (pe_and (pe_u c_is_integer hr (by decide) (by rfl) (pa_cons (pv 0) pa_nil)) (pe_one (pe_chain op_le op_le (pv 1) (pv 0) (pv 2)))))), ?_⟩
    refine ⟨_, rfl, x, rfl, kx, _, rfl, ?_⟩
    refine ite2 (fun hb => ?_) (fun hb => ?_)
    · cases x with
      | int i =>
        refine ⟨_, rfl, _, rfl, _, _, rfl, rfl, _, rfl, ?_⟩
        refine ite2 (fun h1 => ?_) (fun h1 => ?_)
        · refine ⟨_, rfl, _, _, rfl, rfl, ?_⟩
          have e : within (.int i) lo hi = decide (i ≤ hi) := by
            show (decide (lo ≤ i) && decide (i ≤ hi)) = _
            rw [h1, Bool.true_and]
          rw [e] at q
          exact q
        · have e : within (.int i) lo hi = false := by
            show (decide (lo ≤ i) && decide (i ≤ hi)) = _
            rw [Bool.eq_false_iff.mpr h1, Bool.false_and]
          rw [e] at q
          exact q
      | _ => cases hb
    · have e : within x lo hi = false := by
        cases x with
        | int i => exact absurd rfl hb
        | _ => rfl
      rw [e] at q
      exact q
theorem c_is_number {f : Addr} (T : Txt K w mg C D) (df : Df K mg "is_number" s_is_number f) (c_is_within : Cal P w K mg base 2 "is_within" (spWithin C))  : CalF P w K mg base 3 f "is_number" (spNumber C) := by
  refine calF_of df sc_is_number (fun vs H Q E h => ?_) (fun _ _ _ _ _ _ us hl => match us, hl with | [_, _], _ => rfl) (fun cdv A outer s H vs Q E hr h => ?_)
  · obtain ⟨x, hi, rfl, _⟩ := h
    rfl
  · obtain ⟨x, hi, rfl, kx, q⟩ := h
    refine ⟨_, (pss_one (ps_ret (pe_u c_is_within hr (by decide) (by rfl) (pa_cons (pv 0) (pa_cons pe_int (pa_cons (pv 1) pa_nil)))))), ?_⟩
    exact ⟨_, rfl, _, rfl, x, 0, hi, rfl, kx, q⟩
theorem c_is_triple {f : Addr} (T : Txt K w mg C D) (df : Df K mg "is_triple" s_is_triple f)   : CalF P w K mg base 1 f "is_triple" (spTriple) := by
  refine calF_of df sc_is_triple (fun vs H Q E h => ?_) (fun _ _ _ _ _ _ us hl => match us, hl with | [_], _ => rfl) (fun cdv A outer s H vs Q E hr h => ?_)
  · obtain ⟨p, xs, rfl, _⟩ := h
    rfl
  · obtain ⟨p, xs, rfl, hp, hl, q⟩ := h
    refine ⟨_, (pss_one (ps_ret (pe_and (pe_callB (isi_tup T.ins T.kT) (by rfl) T.b_isinstance bt_isinstance (pa_cons (pv 0) (pa_cons (pe_bltn (v := .ty "tuple") (by rfl) T.b_tuple bt_tuple rfl) pa_nil))) (pe_one (pe_cmpR op_eq (pe_callB call_len_seq (by rfl) T.b_len bt_len (pa_cons (pv 0) pa_nil)) pe_int (nomark _)))))), ?_⟩
    refine ⟨_, rfl, .ref p, rfl, .inl ⟨xs, hp⟩, true, congrArg V.bl (bT_at hp), iteT ?_⟩
    refine ⟨_, rfl, p, xs, rfl, .inr (SqT.of hp), rfl, ?_⟩
    have e : decide (V.int (xs.length : Nat) = V.int 3) = true := decide_eq_true (by rw [hl]; rfl)
    show Q (.bl (decide (V.int (xs.length : Nat) = V.int 3))) H
    rw [e]
    exact q
theorem c_is_lot {f : Addr} (T : Txt K w mg C D) (df : Df K mg "is_lot" s_is_lot f) (c_is_within : Cal P w K mg base 2 "is_within" (spWithin C))  : CalF P w K mg base 3 f "is_lot" (spLot C) := by
  refine calF_of df sc_is_lot (fun vs H Q E h => ?_) (fun _ _ _ _ _ _ us hl => match us, hl with | [_, _], _ => rfl) (fun cdv A outer s H vs Q E hr h => ?_)
  · obtain ⟨x, m, rfl, _⟩ := h
    rfl
  · obtain ⟨x, m, rfl, kx, q⟩ := h
    refine ⟨_, (pss_cons (ps_if (pt_not (pt_val (pe_callB (isi_tup T.ins T.kT) (by rfl) T.b_isinstance bt_isinstance (pa_cons (pv 0) (pa_cons (pe_bltn (v := .ty "tuple") (by rfl) T.b_tuple bt_tuple rfl) pa_nil))))) (pss_one (ps_ret pe_bl)) pss_nil) (pss_cons (ps_set (i := 2) sc_is_lot.nd rfl (Or.inl rfl) (pe_un un_neg pe_int)) (pss_cons (ps_for PassesOwn.never rfl (pi_tup (pv 0)) (pg_name (i := 3) sc_is_lot.nd rfl (Or.inl rfl)) (pss_cons (ps_if (pt_not (pt_val (pe_u c_is_within hr (by decide) (by rfl) (pa_cons (pv 3) (pa_cons (pe_op op_add (pv 2) pe_int) (pa_cons (pe_op op_sub (pv 1) pe_int) pa_nil)))))) (pss_one (ps_ret pe_bl)) pss_nil) (pss_one (ps_set (i := 2) sc_is_lot.nd rfl (Or.inl rfl) (pv 3))))) (pss_one (ps_ret pe_bl))))), ?_⟩
    refine ⟨_, rfl, x, rfl, kx.kb, _, rfl, ?_⟩
    refine ite2 (fun hb => ?_) (fun hb => ?_)
    · have hb2 : bT H x = false := by simpa using hb
      have e : lotB m H x = false := by
        rw [bT_tup] at hb2
        unfold lotB
        cases z : tupOf H x with
        | none => rfl
        | some xs =>
          rw [z] at hb2
          cases hb2
      rw [e] at q
      exact q
    · have hb2 : bT H x = true := by
        have z : ¬ (!bT H x) = true := hb
        cases w : bT H x with
        | true => rfl
        | false =>
          rw [w] at z
          exact absurd rfl z
      obtain ⟨xs, hxs⟩ : ∃ xs, tupOf H x = some xs := by
        rw [bT_tup] at hb2
        exact Option.isSome_iff_exists.mp hb2
      obtain ⟨a, rfl, ha⟩ := tupOf_some hxs
      have items := kx.2 a xs rfl ha
      have e : lotB m H (.ref a) = lotL m (-1) xs := by
        unfold lotB
        rw [hxs]
      rw [e] at q
      refine ⟨_, rfl, ?_⟩
      refine ⟨_, rfl, a, rfl, ⟨xs, SqT.of ha⟩, for_tup (K := K) (a := a) (xs := xs) (fun i σ H' => H' = H ∧ i ≤ xs.length ∧ ∃ (l : Int) (v : Option V), σ = [some (.ref a), some (.int m), some (.int l), v] ∧ lotL m l (xs.drop i) = lotL m (-1) xs)
        ⟨rfl, Nat.zero_le _, -1, none, rfl, by rw [List.drop_zero]⟩ (fun i σ H' _ p => by rw [p.1]; exact SqT.of ha) ?_ ?_⟩
      · rintro i y σ H' hi ⟨rfl, hle, l, v, rfl, hl⟩
        have hil : i < xs.length := (List.getElem?_eq_some_iff.mp hi).1
        have hd : xs.drop i = y :: xs.drop (i + 1) := by
          rw [List.drop_eq_getElem_cons hil]
          congr 1
          exact (List.getElem?_eq_some_iff.mp hi).2
        have ky : Kb C _ y := items y (List.mem_of_getElem? hi)
        refine ⟨_, rfl, _, rfl, _, _, rfl, rfl, _, rfl, _, _, rfl, rfl, y, l + 1, m - 1, rfl, ky, _, rfl, ?_⟩
        rw [hd] at hl
        have hl2 : (within y (l + 1) (m - 1) && lotL m (intOf y) (xs.drop (i + 1))) = lotL m (-1) xs := hl
        refine ite2 (fun hw => ?_) (fun hw => ?_)
        · have hw2 : within y (l + 1) (m - 1) = false := by simpa using hw
          rw [hw2, Bool.false_and] at hl2
          rw [← hl2] at q
          exact q
        · have hw2 : within y (l + 1) (m - 1) = true := by simpa using hw
          rw [hw2, Bool.true_and] at hl2
          obtain ⟨j, rfl, _⟩ := within_of hw2
          exact ⟨_, rfl, rfl, hil, j, _, rfl, hl2⟩
      · rintro σ H' ⟨rfl, _, l, v, rfl, hl⟩
        have z : lotL m l (xs.drop xs.length) = true := by
          rw [List.drop_length]
          rfl
        rw [z] at hl
        rw [← hl] at q
        exact q
theorem c_is_first_behind {f : Addr} (T : Txt K w mg C D) (df : Df K mg "is_first_behind" s_is_first_behind f) (c_is_within : Cal P w K mg base 2 "is_within" (spWithin C))  : CalF P w K mg base 3 f "is_first_behind" (spFirstBehind) := by
  refine calF_of df sc_is_first_behind (fun vs H Q E h => ?_) (fun _ _ _ _ _ _ us hl => match us, hl with | [_, _, _], _ => rfl) (fun cdv A outer s H vs Q E hr h => ?_)
  · obtain ⟨head, l, f, rfl, _⟩ := h
    rfl
  · obtain ⟨head, l, f, rfl, hf, q⟩ := h
    refine ⟨_, (pss_one (ps_ret (pe_or (pe_cmpR op_isN (pv 2) pe_non (nomark _)) (pe_one (pe_and (pe_cmpR op_notN (pv 1) pe_non (nomark _)) (pe_one (pe_u c_is_within hr (by decide) (by rfl) (pa_cons (pv 2) (pa_cons (pe_op op_add (pv 1) pe_int) (pa_cons (pe_op op_sub (pv 0) pe_int) pa_nil)))))))))), ?_⟩
    cases f with
    | none => exact ⟨_, rfl, rfl, true, rfl, iteT q⟩
    | some i =>
      obtain ⟨j, rfl, h1, h2⟩ := hf i rfl
      refine ⟨_, rfl, rfl, false, rfl, iteF ?_⟩
      refine ⟨_, rfl, rfl, true, rfl, iteT ?_⟩
      refine ⟨_, rfl, _, rfl, _, _, rfl, rfl, _, rfl, _, _, rfl, rfl, _, j + 1, head - 1, rfl, True.intro, ?_⟩
      have e : within (.int i) (j + 1) (head - 1) = true := within_int h1 h2
      show Q (.bl (within (.int i) (j + 1) (head - 1))) H
      rw [e]
      exact q
theorem c_is_waits {f : Addr} (T : Txt K w mg C D) (df : Df K mg "is_waits" s_is_waits f) (c_is_lot : Cal P w K mg base 3 "is_lot" (spLot C))  : CalF P w K mg base 4 f "is_waits" (spIsWaits) := by
  refine calF_of df sc_is_waits (fun vs H Q E h => ?_) (fun _ _ _ _ _ _ us hl => match us, hl with | [_, _, _], _ => rfl) (fun cdv A outer s H vs Q E hr h => ?_)
  · obtain ⟨many, deed, p, ws, rfl, _⟩ := h
    rfl
  · obtain ⟨many, deed, p, ws, rfl, hp, ha, hr1, hn, q⟩ := h
    refine ⟨_, (pss_one (ps_ret (pe_and (pe_u c_is_lot hr (by decide) (by rfl) (pa_cons (pv 2) (pa_cons (pv 0) pa_nil))) (pe_one (pe_cmpR op_notIn_seq (pv 1) (pv 2) (by rfl)))))), ?_⟩
    have kx : Kn C 1 H (.ref p) := kn_tup hp fun y hy => by
      obtain ⟨i, _, rfl⟩ := List.mem_map.mp hy
      exact True.intro
    have hl : lotB many H (.ref p) = true := by
      unfold lotB
      rw [tupOf_at hp]
      exact lotL_asc ws (-1) ha (fun x hx => by have := hr1 x hx; omega) fun x hx => (hr1 x hx).2
    refine ⟨_, rfl, _, rfl, _, many, rfl, kx, ?_⟩
    rw [hl]
    refine ⟨true, rfl, iteT ?_⟩
    refine ⟨_, rfl, _, rfl, p, iV ws, rfl, .inr (SqT.of hp), rfl, all_flat ws, ?_⟩
    rw [if_pos rfl, inV_int, decide_eq_false hn]
    exact q

end
end Rc
set_option maxHeartbeats 4000000
namespace Rc
open PySem PySem.Spec PyProof.Rows L2
section
variable {P : Program} {w : World} {K : PySem.W.Frag} {mg : Str → Option Value} {base : Heap} {C D : Addr}
/-! standings: first_wrong, waited_for, first_in_ring, is_too_far, Standing.__init__, raw_standing, waits_of -/
theorem sz_lt {n : Nat} (h : n < 100000) : n < sizeLine := Nat.lt_of_lt_of_le h (by decide)
theorem yes_ite {σ : L2.St} {H : Hp} {A B : Hp → Prop} (h : A H) : tYes σ H (fun b H3 => if b = true then A H3 else B H3) :=
  iteT (A := A H) (B := B H) h
def prevV (ds : List Deed) : Nat → V
  | 0 => .int (-1)
  | i + 1 => fV (ds.getD i noDeed).1
theorem getD_of {α : Type} {l : List α} {i : Nat} {d x : α} (h : l[i]? = some x) : l.getD i d = x := by
  rw [List.getD_eq_getElem?_getD, h]
  rfl
theorem prev_ok {head : Int} {ds : List Deed} (W : WF head ds) {i : Nat} {d : Deed} (hi : ds[i]? = some d) (f : Int) (hf : d.1 = some f) : ∃ j, prevV ds i = .int j ∧ j + 1 ≤ f ∧ f ≤ head - 1 := by
  have h1 := W.fst i d f hi hf
  cases i with
  | zero => exact ⟨-1, rfl, by omega, by omega⟩
  | succ k =>
    obtain ⟨n, hn, hp⟩ := W.pre
    have hk : k + 1 < n := (hp (k + 1) d hi).mp (by rw [hf]; rfl)
    have hl : k < ds.length := by omega
    obtain ⟨e, he⟩ : ∃ e, ds[k]? = some e := ⟨_, List.getElem?_eq_getElem hl⟩
    have hs : e.1.isSome = true := (hp k e he).mpr (by omega)
    obtain ⟨g, hg⟩ := Option.isSome_iff_exists.mp hs
    have lt := W.asc k (k + 1) e d g f (by omega) he hi hg hf
    refine ⟨g, ?_, by omega, by omega⟩
    show fV (ds.getD k noDeed).1 = .int g
    rw [getD_of he, hg]
    rfl
/-- a deed's own waits -/
theorem no_own {head : Int} {ds : List Deed} (W : WF head ds) {i : Nat} {d : Deed} (hi : ds[i]? = some d) : (i : Int) ∉ d.2.2 := fun h =>
  W.nr i d.2.2 (by rw [List.getElem?_map, hi]; rfl) (.base h)
theorem c_first_wrong {f : Addr} (T : Txt K w mg C D) (df : Df K mg "first_wrong" s_first_wrong f) (c_is_triple : Cal P w K mg base 1 "is_triple" (spTriple)) (c_is_first_behind : Cal P w K mg base 3 "is_first_behind" (spFirstBehind)) (c_is_number : Cal P w K mg base 3 "is_number" (spNumber C)) (c_is_waits : Cal P w K mg base 4 "is_waits" (spIsWaits))  : CalF P w K mg base 5 f "first_wrong" (spFirstWrong) := by
  refine calF_of df sc_first_wrong (fun vs H Q E h => ?_) (fun _ _ _ _ _ _ us hl => match us, hl with | [_, _], _ => rfl) (fun cdv A outer s H vs Q E hr h => ?_)
  · obtain ⟨head, a, xs, ds, rfl, _⟩ := h
    rfl
  · obtain ⟨head, a, xs, ds, rfl, ha, hd, W, q⟩ := h
    refine ⟨_, (pss_cons (ps_set (i := 2) sc_first_wrong.nd rfl (Or.inl rfl) (pe_un un_neg pe_int)) (pss_cons (ps_for PassesOwn.never rfl (pi_enumT (by rfl) T.b_enumerate (pa_cons (pv 1) pa_nil)) (pg_tup (by rfl) (pgs_cons (pg_name (i := 3) sc_first_wrong.nd rfl (Or.inl rfl)) (pgs_cons (pg_name (i := 4) sc_first_wrong.nd rfl (Or.inl rfl)) pgs_nil))) (pss_cons (ps_if (PW.pt (pw_or (pt_not (pt_val (pe_u c_is_triple hr (by decide) (by rfl) (pa_cons (pv 4) pa_nil)))) (pw_or1 (pt_not (pt_val (pe_u c_is_first_behind hr (by decide) (by rfl) (pa_cons (pv 0) (pa_cons (pv 2) (pa_cons (pe_ix ix_tup (pv 4) pe_int (fun _ _ => rfl)) pa_nil))))))))) (pss_one (ps_ret (pv 3))) pss_nil) (pss_cons (ps_if (PW.pt (pw_or (pt_not (pt_val (pe_u c_is_number hr (by decide) (by rfl) (pa_cons (pe_ix ix_tup (pv 4) pe_int (fun _ _ => rfl)) (pa_cons (C8.pe_gc (by rfl) T.mc) pa_nil))))) (pw_or1 (pt_not (pt_val (pe_u c_is_waits hr (by decide) (by rfl) (pa_cons (pe_callB call_len_seq (by rfl) T.b_len bt_len (pa_cons (pv 1) pa_nil)) (pa_cons (pv 3) (pa_cons (pe_ix ix_tup (pv 4) pe_int (fun _ _ => rfl)) pa_nil))))))))) (pss_one (ps_ret (pv 3))) pss_nil) (pss_one (ps_set (i := 2) sc_first_wrong.nd rfl (Or.inl rfl) (pe_ix ix_tup (pv 4) pe_int (fun _ _ => rfl))))))) (pss_one (ps_ret pe_non)))), ?_⟩
    refine ⟨_, rfl, ?_⟩
    refine ⟨_, rfl, a, xs, rfl, SqT.of ha, for_it (walk_enumT (xs := xs)) (fun i σ H' => Same H H' ∧ ∃ (v3 v4 : Option V), σ = [some (.int head), some (.ref a), some (prevV ds i), v3, v4])
      ⟨Same.refl _, none, none, rfl⟩ (fun i σ H' _ p => SqT.of (p.1 _ _ ha)) ?_ ?_⟩
    · rintro i x σ H1 H2 hi ⟨s1, v3, v4, rfl⟩ ⟨T, y, v, rfl, hT, rfl, e1, e2⟩
      cases e1
      have s2 : Same H (upd H1 T (.tup [.int (i : Nat), v])) := same_snew s1 hT
      obtain ⟨d, he, p, q2, rfl, hp, hq⟩ := hd.at_ i v e2
      have hp2 := s2 _ _ hp
      have hq2 := s2 _ _ hq
      have ha2 := s2 _ _ ha
      have hil : i < ds.length := (List.getElem?_eq_some_iff.mp he).1
      have hmem := List.mem_of_getElem? he
      have hw := List.mem_map_of_mem (f := fun d : Deed => d.2.2) hmem
      refine ⟨T, _, rfl, SqT.of upd_same, rfl, _, _, rfl, _, _, rfl, rfl, ?_⟩
      refine ⟨_, rfl, p, _, rfl, hp2, rfl, true, rfl, iteF ?_⟩
      refine ⟨_, rfl, _, rfl, _, rfl, p, _, 0, fV d.1, rfl, rfl, SqT.of hp2, rfl, ?_⟩
      refine ⟨head, prevV ds i, d.1, rfl, prev_ok W he, true, rfl, iteF ?_⟩
      refine ⟨_, rfl, p, _, 1, .int d.2.1, rfl, rfl, SqT.of hp2, rfl, ?_⟩
      refine ⟨_, E30, rfl, True.intro, ?_⟩
      have hn : within (.int d.2.1) 0 E30 = true := within_int (W.need d hmem).1 (W.need d hmem).2
      rw [hn]
      refine ⟨true, rfl, iteF ?_⟩
      refine ⟨_, rfl, a, xs, rfl, .inr (SqT.of ha2), _, rfl, _, rfl, p, _, 2, .ref q2, rfl, rfl, SqT.of hp2, rfl, ?_⟩
      refine ⟨_, _, q2, d.2.2, rfl, hq2, W.good.asc _ hw, ?_, no_own W he, true, rfl, iteF ?_⟩
      · rw [hd.len]
        exact W.good.inr _ hw
      · refine ⟨_, rfl, p, _, 0, fV d.1, rfl, rfl, SqT.of hp2, rfl, ?_⟩
        refine ⟨s2, some (.int (i : Nat)), some (.ref p), ?_⟩
        have e3 : prevV ds (i + 1) = fV d.1 := by
          show fV (ds.getD i noDeed).1 = _
          rw [getD_of he]
        rw [e3]
        rfl
    · rintro σ H1 ⟨s1, v3, v4, rfl⟩
      exact q H1 s1
theorem same_upd {H H' : Hp} {p : Addr} {o : HO} (s : Same H H') (h : H p = none) : Same H (upd H' p o) := fun b u e => by
  rw [upd_ne (ne_of_none e h)]
  exact s b u e
abbrev kvD (F : List Int) : List (Key × V) := F.map fun x => (Sum.inl x, V.bl true)
theorem valD (x : Int) : ∀ F : List Int, valV (kvD F) (Sum.inl x : Key) = if x ∈ F then some (.bl true) else none
  | [] => rfl
  | y :: r => by
    by_cases e : y = x
    · subst e
      rw [show kvD (y :: r) = (Sum.inl y, V.bl true) :: kvD r from rfl, valV_pos rfl, if_pos (List.mem_cons_self ..)]
    · rw [show kvD (y :: r) = (Sum.inl y, V.bl true) :: kvD r from rfl, valV_neg (fun z => e (by injection z)), valD x r]
      by_cases h : x ∈ r
      · rw [if_pos h, if_pos (List.mem_cons_of_mem _ h)]
      · rw [if_neg h, if_neg (fun z => (List.mem_cons.mp z).elim (fun w => e w.symm) h)]
theorem putD {F : List Int} {x : Int} (h : x ∉ F) : putK (kvD F) (Sum.inl x : Key) (.bl true) = kvD (F ++ [x]) := by
  rw [putK_new _ (by rw [valD, if_neg h]), show kvD (F ++ [x]) = kvD F ++ kvD [x] from List.map_append ..]
  rfl
theorem reach_U {W : List (List Int)} {S U : List Int} (hS : ∀ x ∈ S, x ∈ U) (hW : ∀ ws ∈ W, ∀ x ∈ ws, x ∈ U) : ∀ {x : Int}, Reach W S x → x ∈ U
  | _, .base h => hS _ h
  | _, .step _ h hy => hW _ (List.mem_of_getElem? h) _ hy
theorem iV_app (a b : List Int) : iV (a ++ b) = iV a ++ iV b := List.map_append ..
theorem iV_len (a : List Int) : (iV a).length = a.length := List.length_map ..
theorem iV_get {ws : List Int} {i : Nat} {y : V} (h : (iV ws)[i]? = some y) : ∃ z, ws[i]? = some z ∧ y = .int z := by
  rw [List.getElem?_map] at h
  cases e : ws[i]? with
  | none => rw [e] at h; cases h
  | some z => rw [e] at h; cases h; exact ⟨z, rfl, rfl⟩
theorem c_waited_for {f : Addr} (T : Txt K w mg C D) (df : Df K mg "waited_for" s_waited_for f)   : CalF P w K mg base 1 f "waited_for" (spWaited) := by
  refine calF_of df sc_waited_for (fun vs H Q E h => ?_) (fun _ _ _ _ _ _ us hl => match us, hl with | [_, _], _ => rfl) (fun cdv A outer s H vs Q E hr h => ?_)
  · obtain ⟨w, l, xs, W, S, U, rfl, _⟩ := h
    rfl
  · obtain ⟨w, l, xs, W, S, U, rfl, hw, hws, hl, hnd, ⟨hU, hSU, hWU⟩, hSr, hWr, q⟩ := h
    refine ⟨_, (pss_cons (ps_setDc (i := 2) rfl rfl rfl (sw_trueD rfl rfl rfl (by decide +kernel)) sc_waited_for.nd (pi_tup (pv 1)) (blkOk_by (own := [("deed", 5)]) (N := N_waited_for) (sc := defScope s_waited_for) (by decide +kernel)) (fun _ _ _ _ _ => (pg_name (i := 5) sc_waited_for.nd rfl (Or.inl rfl))) (fun _ _ _ _ _ => pts_nil) (fun _ _ _ _ _ => (pv 5)) (fun _ _ _ _ _ => pe_bl)) (pss_cons (ps_set (i := 3) sc_waited_for.nd rfl (Or.inl rfl) (pe_callTy call_list_of (by rfl) T.b_list bt_list (pa_cons (pv 1) pa_nil))) (pss_cons (ps_while PassesOwn.never (pt_cmpR op_gt (pe_callB call_len_seq (by rfl) T.b_len bt_len (pa_cons (pv 3) pa_nil)) pe_int (nomark _)) (pss_one (ps_for PassesOwn.never rfl (pi_tup (pe_ix ix_list (pv 0) (pe_bm0 PySem.F.plainAttrs_list PySem.F.slot_list_pop PySem.F.type_list_pop mt_pop (pv 3)) (fun _ _ => rfl))) (pg_name (i := 4) sc_waited_for.nd rfl (Or.inl rfl)) (pss_one (ps_if (pt_cmp (pc_dnotin (hu_of hr) (pv 4) (pv 2)) rfl) (pss_cons (ps_dput (hu_of hr) (pv 2) (pv 4) pe_bl rfl) (pss_one (ps_expr (pe_bm PySem.F.plainAttrs_list PySem.F.slot_list_append PySem.F.type_list_append mt_append (pv 3) (pa_cons (pv 4) pa_nil))))) pss_nil))))) (pss_one (ps_ret (pe_callTy call_tuple_of (by rfl) T.b_tuple bt_tuple (pa_cons (pe_callB (call_sortedDI rfl) (by rfl) T.b_sorted bt_sorted (pa_cons (pv 2) pa_nil)) pa_nil))))))), ?_⟩
    have big : ∀ {F Wt : List Int}, Dfs W S F Wt → F.length ≤ U.length := fun d => nodup_le d.nd fun x hx => reach_U hSU hWU (d.r x hx)
    refine ⟨_, rfl, l, rfl, ⟨_, SqT.of hl⟩, fun fd hfd => dc_tup (K := K) (a := l) (xs := iV S) (fun i H' => i ≤ S.length ∧ Same H H' ∧ H' fd = some (.dK (kvD (S.take i))))
      ⟨Nat.zero_le _, same_new hfd, by rw [upd_same]; rfl⟩ (fun i H' _ p => SqT.of (p.2.1 _ _ hl)) ?_ ?_⟩
    · rintro i x H1 hi ⟨hle, s1, h1⟩
      obtain ⟨z, hz, rfl⟩ := iV_get hi
      refine ⟨rfl, yes_ite ?_⟩
      refine ⟨_, rfl, kvD (S.take i), Sum.inl z, rfl, h1, sz_lt ?_, ?_, same_upd s1 hfd, ?_⟩
      · have := nodup_le hnd hSU
        rw [List.length_map, List.length_take]
        omega
      · exact (List.getElem?_eq_some_iff.mp hz).1
      · rw [upd_same, putD, List.take_add_one, hz]
        · rfl
        · intro hm
          obtain ⟨j, hj, e⟩ := List.mem_take_iff_getElem.mp hm
          have hi2 := (List.getElem?_eq_some_iff.mp hz)
          have := (List.getElem_inj hnd).mp (e.trans hi2.2.symm)
          omega
    · rintro H1 ⟨_, s1, h1⟩
      have h1 : H1 fd = some (.dK (kvD S)) := by
        rw [h1, List.length_map, List.take_length]
      refine ⟨_, rfl, l, _, rfl, .inr (SqT.of (s1 _ _ hl)), fun wt hwt => ?_⟩
      have hwf : fd ≠ wt := ne_of_none h1 hwt
      have hwt0 : H wt = none := Same.free s1 hwt
      refine ⟨fun m σ H' => ∃ (F Wt : List Int) (v4 v5 : Option V), m = 2 * (U.length - F.length) + Wt.length ∧ Wt.length ≤ F.length ∧ Dfs W S F Wt ∧ Same H H' ∧ H' fd = some (.dK (kvD F)) ∧ H' wt = some (.lst (iV Wt)) ∧ σ = [some (.ref w), some (.ref l), some (.ref fd), some (.ref wt), v4, v5],
        ⟨_, S, S, none, none, rfl, Nat.le_refl _, dfs_start hnd, same_snew s1 hwt, by rw [upd_ne hwf]; exact h1, upd_same, rfl⟩, ?_⟩
      rintro m σ H2 ⟨F, Wt, v4, v5, rfl, hWF, d, s2, f2, w2, rfl⟩
      refine ⟨_, rfl, wt, _, rfl, .inl (SqL.of w2), _, _, rfl, rfl, _, rfl, ?_⟩
      refine ite2 (fun hb => ?_) (fun hb => ?_)
      · have hb2 : (0 : Int) < ((iV Wt).length : Nat) := of_decide_eq_true hb
        obtain ⟨Wt0, x, rfl⟩ : ∃ Wt0 x, Wt = Wt0 ++ [x] := by
          rcases List.eq_nil_or_concat Wt with e | ⟨a, b, e⟩
          · rw [e] at hb2
            exact absurd hb2 (by decide)
          · exact ⟨a, b, by rw [e, List.concat_eq_append]⟩
        have hxF : x ∈ F := d.w x (List.mem_append_right _ (List.mem_singleton_self _))
        have hxr := (d.r x hxF).inR hSr hWr
        have hxl : x.toNat < W.length := by omega
        obtain ⟨ws, q2, e1, e2, e3⟩ := hws.get hxl
        refine ⟨fun σ' H' => ∃ m', m' < _ ∧ _, fun σ' H' z => z, ?_⟩
        have ev : (iV (Wt0 ++ [x])).dropLast = iV Wt0 := by
          rw [iV_app]
          exact List.dropLast_concat
        have ex : ((x.toNat : Nat) : Int) = x := by omega
        have s3 : Same H (upd H2 wt (.lst ((iV (Wt0 ++ [x])).dropLast))) := same_upd s2 hwt0
        refine ⟨_, rfl, _, rfl, .inl ⟨rfl, _, SqL.of w2⟩, wt, _, .int x, rfl, rfl, w2, ?_, w, xs, x, .ref q2, rfl, rfl, SqL.of (s3 _ _ hw), ?_, q2, rfl, ⟨_, SqT.of (s3 _ _ e3)⟩,
          for_tup (K := K) (a := q2) (xs := iV ws) (fun j σ H' => ∃ (F' Wt' : List Int) (v4 v5 : Option V), F.length ≤ F'.length ∧ DfsP W S x ws F Wt0 j F' Wt' ∧ Same H H' ∧ H' fd = some (.dK (kvD F')) ∧ H' wt = some (.lst (iV Wt')) ∧ σ = [some (.ref w), some (.ref l), some (.ref fd), some (.ref wt), v4, v5])
            ⟨F, Wt0, v4, v5, Nat.le_refl _, d.pop ws, s3, by rw [upd_ne hwf]; exact f2, by rw [upd_same, ev], rfl⟩ (fun i σ H' _ p => by
              obtain ⟨_, _, _, _, _, _, s4, _⟩ := p
              exact SqT.of (s4 _ _ e3)) ?_ ?_⟩
        · rw [iV_app, List.length_append]
          exact List.getElem?_concat_length ..
        · have := atI_nat e2
          rw [ex] at this
          exact this
        · rintro i y σ H3 hi ⟨F', Wt', v4, v5, hFF, d3, s4, f3, w3, rfl⟩
          obtain ⟨z, hz, rfl⟩ := iV_get hi
          refine ⟨_, rfl, _, rfl, fd, _, rfl, DGet.k (k := Sum.inl z) f3, _, rfl, ?_⟩
          by_cases hm : z ∈ F'
          · rw [valD, if_pos hm]
            exact iteF ⟨F', Wt', _, _, hFF, d3.old hz hm, s4, f3, w3, rfl⟩
          · rw [valD, if_neg hm]
            refine iteT ?_
            have d4 := d3.new e1 hz hm
            have hF' : F'.length ≤ U.length := nodup_le d3.nd fun x hx => reach_U hSU hWU (d3.r x hx)
            refine ⟨_, rfl, _, rfl, fd, _, rfl, DPut.k (k := Sum.inl z) f3 (sz_lt (by rw [List.length_map]; omega)), ?_⟩
            have w4 : (upd H3 fd (.dK (putK (kvD F') (Sum.inl z : Key) (.bl true)))) wt = some (.lst (iV Wt')) := by
              rw [upd_ne hwf.symm]
              exact w3
            have hWt' : Wt'.length ≤ F'.length := by
              have := d3.m
              rw [List.length_append] at hWF
              omega
            refine ⟨_, rfl, .inl ⟨rfl, _, SqL.of w4⟩, _, rfl, wt, _, _, rfl, rfl, w4, sz_lt ?_, ?_⟩
            · rw [iV_len]
              omega
            · refine ⟨F' ++ [z], Wt' ++ [z], _, _, by rw [List.length_append]; omega, d4, same_upd (same_upd s4 hfd) hwt0, ?_, ?_, rfl⟩
              · rw [upd_ne hwf, upd_same, putD hm]
              · rw [upd_same, iV_app]
                rfl
        · rintro σ H3 ⟨F', Wt', v4, v5, hFF, d3, s4, f3, w3, rfl⟩
          rw [List.length_map] at d3
          have d4 := d3.done e1
          have b1 := big d4
          have b2 := d3.m
          refine ⟨_, ?_, F', Wt', v4, v5, rfl, ?_, d4, s4, f3, w3, rfl⟩
          · rw [List.length_append, List.length_singleton]
            omega
          · rw [List.length_append] at hWF
            omega
      · have hb2 : ¬ (0 : Int) < ((iV Wt).length : Nat) := of_decide_eq_false (Bool.eq_false_iff.mpr hb)
        obtain rfl : Wt = [] := by
          cases Wt with
          | nil => rfl
          | cons a b => exact absurd (by rw [List.length_map, List.length_cons]; omega) hb2
        have hF : F.length ≤ U.length := big d
        refine ⟨_, rfl, fd, _, F, rfl, .inl f2, by rw [List.map_map]; rfl, by omega, fun ys p hp1 hp2 hp3 => ⟨p, _, rfl, .inl ⟨SqL.of upd_same, fun t ht => ?_⟩⟩⟩
        refine q _ t ys (same_upd (same_snew s2 hp3) (Same.free (same_snew s2 hp3) ht)) upd_same fun x => ?_
        rw [hp1.mem_iff]
        exact d.done x
theorem c_first_in_ring {f : Addr} (T : Txt K w mg C D) (df : Df K mg "first_in_ring" s_first_in_ring f) (c_waited_for : Cal P w K mg base 1 "waited_for" (spWaited))  : CalF P w K mg base 2 f "first_in_ring" (spFirstRing) := by
  refine calF_of df sc_first_in_ring (fun vs H Q E h => ?_) (fun _ _ _ _ _ _ us hl => match us, hl with | [_], _ => rfl) (fun cdv A outer s H vs Q E hr h => ?_)
  · obtain ⟨w, xs, W, U, rfl, _⟩ := h
    rfl
  · obtain ⟨w, xs, W, U, rfl, hw, hws, ⟨hU, hWU⟩, hWr, hWa, hno, q⟩ := h
    refine ⟨_, (pss_cons (ps_for PassesOwn.never rfl (pi_enum (by rfl) T.b_enumerate (pa_cons (pv 0) pa_nil)) (pg_tup (by rfl) (pgs_cons (pg_name (i := 1) sc_first_in_ring.nd rfl (Or.inl rfl)) (pgs_cons (pg_name (i := 2) sc_first_in_ring.nd rfl (Or.inl rfl)) pgs_nil))) (pss_one (ps_if (pt_cmpR op_in_seq (pv 1) (pe_u c_waited_for hr (by decide) (by rfl) (pa_cons (pv 0) (pa_cons (pv 2) pa_nil))) (by rfl)) (pss_one (ps_ret (pv 1))) pss_nil))) (pss_one (ps_ret pe_non))), ?_⟩
    refine ⟨_, rfl, w, xs, rfl, SqL.of hw, for_it (walk_enum (xs := xs)) (fun i σ H' => Same H H' ∧ ∃ (v1 v2 : Option V), σ = [some (.ref w), v1, v2])
      ⟨Same.refl _, none, none, rfl⟩ (fun i σ H' _ p => SqL.of (p.1 _ _ hw)) ?_ ?_⟩
    · rintro i x σ H1 H2 hi ⟨s1, v1, v2, rfl⟩ ⟨T, y, v, rfl, hT, rfl, e1, e2⟩
      cases e1
      have s2 : Same H (upd H1 T (.tup [.int (i : Nat), v])) := same_snew s1 hT
      obtain ⟨ws, q2, e3, rfl, e4⟩ := hws.at_ i v e2
      have hm := List.mem_of_getElem? e3
      refine ⟨T, _, rfl, SqT.of upd_same, rfl, _, _, rfl, _, _, rfl, rfl, ?_⟩
      refine ⟨_, rfl, _, rfl, _, rfl, w, q2, xs, W, ws, U, rfl, s2 _ _ hw, hws.same s2, s2 _ _ e4, (hWa ws hm).nodup, ⟨hU, hWU ws hm, hWU⟩, hWr ws hm, hWr, fun H3 p L s3 hp hL => ?_⟩
      refine ⟨p, iV L, rfl, .inr (SqT.of hp), rfl, all_flat L, ?_⟩
      have e5 : inV (.int (i : Nat)) (iV L) = false := by
        rw [inV_int]
        exact decide_eq_false fun hh => hno i ws e3 ((hL _).mp hh)
      rw [if_neg (by decide), e5]
      exact ⟨_, rfl, iteF ⟨s2.trans s3, _, _, rfl⟩⟩
    · rintro σ H1 ⟨s1, v1, v2, rfl⟩
      exact q H1 s1
theorem c_is_too_far {f : Addr} (T : Txt K w mg C D) (df : Df K mg "is_too_far" s_is_too_far f)   : CalF P w K mg base 1 f "is_too_far" (spTooFar) := by
  refine calF_of df sc_is_too_far (fun vs H Q E h => ?_) (fun _ _ _ _ _ _ us hl => match us, hl with | [_, _, _], _ => rfl) (fun cdv A outer s H vs Q E hr h => ?_)
  · obtain ⟨cells, head, a, xs, ds, rfl, _⟩ := h
    rfl
  · obtain ⟨cells, head, a, xs, ds, rfl, ha, hd, hr0, q⟩ := h
    refine ⟨_, (pss_one (ps_ret (pe_and (pe_cmpR op_gt (pe_callB call_len_seq (by rfl) T.b_len bt_len (pa_cons (pv 2) pa_nil)) pe_int (nomark _)) (pe_and (pe_cmpR op_notN (pe_ix ix_tup (pe_ix ix_tup (pv 2) pe_int (fun _ _ => rfl)) pe_int (fun _ _ => rfl)) pe_non (nomark _)) (pe_one (pe_cmpR op_gt (pe_op op_sub (pv 1) (pe_ix ix_tup (pe_ix ix_tup (pv 2) pe_int (fun _ _ => rfl)) pe_int (fun _ _ => rfl))) (pv 0) (nomark _))))))), ?_⟩
    refine ⟨_, rfl, a, xs, rfl, .inr (SqT.of ha), _, _, rfl, rfl, _, rfl, ?_⟩
    refine ite2 (fun hb => ?_) (fun hb => ?_)
    · have hb2 : (0 : Int) < (xs.length : Nat) := of_decide_eq_true hb
      have h0 : 0 < ds.length := by
        have := hd.len
        omega
      obtain ⟨v, d, e1, e2, p, q2, rfl, hp, hq⟩ := hd.get h0
      have e1' : atI xs 0 = some (.ref p) := atI_nat e1
      refine ⟨_, rfl, a, xs, 0, .ref p, rfl, rfl, SqT.of ha, e1', p, _, 0, fV d.1, rfl, rfl, SqT.of hp, rfl, rfl, ?_⟩
      cases hf : d.1 with
      | none => exact ⟨false, rfl, iteF q⟩
      | some f =>
        rw [hf] at hp
        refine ⟨true, rfl, iteT ?_⟩
        refine ⟨_, rfl, _, rfl, a, xs, 0, .ref p, rfl, rfl, SqT.of ha, e1', p, _, 0, .int f, rfl, rfl, SqT.of hp, rfl, head, f, rfl, rfl, _, rfl, _, _, rfl, rfl, ?_⟩
        have e3 : decide (cells < head - f) = false := decide_eq_false (by have := hr0 d f e2 hf; omega)
        show Q (.bl (decide (cells < head - f))) H
        rw [e3]
        exact q
    · exact q

end
end Rc
set_option maxHeartbeats 4000000
namespace Rc
open PySem PySem.Spec PyProof.Rows L2
section
variable {P : Program} {w : World} {K : PySem.W.Frag} {mg : Str → Option Value} {base : Heap} {C D : Addr}
/-! Standing.__init__, raw_standing, waits_of -/
/-- the class with its __init__ as they stand behind the top -/
structure DfM (K : PySem.W.Frag) (C : Addr) (st : Stmt) : Prop where
  ex : ∃ (f : Addr) (fd : FuncData), FnP K "__init__" "Standing.__init__" st f fd ∧ Mk K C f
theorem makS_of {st : Stmt} {N ps : List Str} {k : Nat} {sp : Sp} (hm : mg "Standing" = some (.ref C)) (D : DfM K C st) (S : FnScope N ps (defScope st)) (len : ∀ vs H Q E, sp vs H Q E → vs.length = ps.length)
    (hb : ∀ (kV doc pm : Value) (an : Option Addr) (cdv ct : Value) (us : List Value), us.length = ps.length → bindArgs (PySem.W.fnOf "__init__" "Standing.__init__" (defArgs st) (defBody st) (defScope st) .none kV doc pm an cdv ct) ⟨us, []⟩ = pure (ps.zip us))
    (hbody : ∀ (f : Addr) (cdv : Value) (A : Around) (outer : List Env) (s : Shared) (H : Hp) (vs : List V) (Q : VK) (E : XK), Room k (A.deeper (envOfC "Standing.__init__" (defScope st) s.heap.objs.size f cdv)) → sp vs H Q E →
      ∃ t, PSs (cxOf CX0 P w K mg base N "Standing.__init__" (defScope st) f cdv A outer s H E).nox (defBody st) t ∧ t { nx := fun _ H' => Q .non H', rt := Q } (start N vs) H) : MakS P w K mg base (k + 1) "Standing" C sp := by
  obtain ⟨f, fd, F, M⟩ := D.ex
  refine ⟨⟨f, fd, ps, M, F.ok S len fun cdv A outer s H vs Q E hr hsp => ?_, hm, F.bindsN hb⟩⟩
  obtain ⟨t, h, q⟩ := hbody f cdv A outer s H vs Q E hr hsp
  exact ⟨t, h.nox, q⟩
theorem WsAt.snoc {H : Hp} {vs : List V} {W : List (List Int)} {q : Addr} {ws : List Int} (h : WsAt H vs W) (e : H q = some (.tup (iV ws))) : WsAt H (vs ++ [.ref q]) (W ++ [ws]) := by
  refine ⟨by rw [List.length_append, List.length_append, h.len]; rfl, fun i x ex => ?_⟩
  by_cases hi : i < vs.length
  · rw [List.getElem?_append_left hi] at ex
    obtain ⟨ws', q', e1, e2, e3⟩ := h.at_ i x ex
    exact ⟨ws', q', by rw [List.getElem?_append_left (by rw [← h.len]; exact hi)]; exact e1, e2, e3⟩
  · have hl : i = vs.length := by
      have z := (List.getElem?_eq_some_iff.mp ex).1
      rw [List.length_append, List.length_singleton] at z
      omega
    subst hl
    rw [List.getElem?_append_right (Nat.le_refl _), Nat.sub_self] at ex
    cases ex
    exact ⟨ws, q, by rw [h.len, List.getElem?_append_right (Nat.le_refl _), Nat.sub_self]; rfl, rfl, e⟩
theorem WsAt.nil {H : Hp} : WsAt H [] [] := ⟨rfl, fun i v e => by simp at e⟩
/-- amid [waits for first, need, waits in deeds] -/
def LcW (H : Hp) (Dl : Addr) (ds : List Deed) (i : Nat) (H' : Hp) : Prop := i ≤ ds.length ∧ Same H H' ∧ H Dl = none ∧ ∃ ys, H' Dl = some (.lst ys) ∧ WsAt H ys ((waitsL ds).take i) ∧ ys.length = i
theorem lcW_0 {H : Hp} {Dl : Addr} {ds : List Deed} (h : H Dl = none) : LcW H Dl ds 0 (upd H Dl (.lst [])) := ⟨Nat.zero_le _, same_new h, h, [], upd_same, WsAt.nil, rfl⟩
theorem lcW_s {H H' : Hp} {Dl q : Addr} {ds : List Deed} {i : Nat} {d : Deed} (hl : ds.length ≤ 1000) (hd : ds[i]? = some d) (hq : H q = some (.tup (iV d.2.2))) (p : LcW H Dl ds i H') : ∃ acc, H' Dl = some (.lst acc) ∧ acc.length < sizeLine ∧ LcW H Dl ds (i + 1) (upd H' Dl (.lst (acc ++ [.ref q]))) := by
  obtain ⟨h1, h2, h3, ys, h4, h5, h6⟩ := p
  have hi : i < ds.length := (List.getElem?_eq_some_iff.mp hd).1
  refine ⟨ys, h4, sz_lt (by omega), hi, same_upd h2 h3, h3, _, upd_same, ?_, by rw [List.length_append, h6]; rfl⟩
  rw [List.take_add_one, List.getElem?_map, hd]
  exact h5.snoc hq
theorem lcW_e {H H' : Hp} {Dl : Addr} {ds : List Deed} (p : LcW H Dl ds ds.length H') : Same H H' ∧ ∃ ys, H' Dl = some (.lst ys) ∧ WsAt H' ys (waitsL ds) := by
  obtain ⟨h1, h2, h3, ys, h4, h5, h6⟩ := p
  refine ⟨h2, ys, h4, ?_⟩
  have e : (waitsL ds).take ds.length = waitsL ds := by
    rw [List.take_of_length_le]
    rw [List.length_map]
    exact Nat.le_refl _
  rw [e] at h5
  exact h5.same h2
theorem c_Standing_init (T : Txt K w mg C D) (df : DfM K C s_Standing_init) (c_is_within : Cal P w K mg base 2 "is_within" (spWithin C)) (c_is_number : Cal P w K mg base 3 "is_number" (spNumber C)) (c_first_wrong : Cal P w K mg base 5 "first_wrong" spFirstWrong)
    (c_is_too_far : Cal P w K mg base 1 "is_too_far" spTooFar) (c_first_in_ring : Cal P w K mg base 2 "first_in_ring" spFirstRing) : MakS P w K mg base 6 "Standing" C (spInit C) := by
  refine makS_of T.mgC df sc_Standing_init (fun vs H Q E h => ?_) (fun _ _ _ _ _ _ us hl => match us, hl with | [_, _, _, _], _ => rfl) (fun f cdv A outer s H vs Q E hr h => ?_)
  · obtain ⟨s, dx, cells, head, a, xs, ds, rfl, _⟩ := h
    rfl
  · obtain ⟨s, dx, cells, head, a, xs, ds, rfl, hs, ha, hd, hc, W, hr0, q⟩ := h
    refine ⟨_, (pss_cons (ps_if (pt_not (pt_val (pe_u c_is_within hr (by decide) (by rfl) (pa_cons (pv 1) (pa_cons pe_int (pa_cons (C8.pe_gc (by rfl) T.mc) pa_nil)))))) (pss_one ps_never) pss_nil) (pss_cons (ps_if (pt_not (pt_val (pe_u c_is_number hr (by decide) (by rfl) (pa_cons (pv 2) (pa_cons (C8.pe_gc (by rfl) T.mh) pa_nil))))) (pss_one ps_never) pss_nil) (pss_cons (ps_if (PW.pt (pw_or (pt_not (pt_val (pe_callB (isi_tup T.ins T.kT) (by rfl) T.b_isinstance bt_isinstance (pa_cons (pv 3) (pa_cons (pe_bltn (v := .ty "tuple") (by rfl) T.b_tuple bt_tuple rfl) pa_nil))))) (pw_or1 (pt_cmpR op_gt (pe_callB call_len_seq (by rfl) T.b_len bt_len (pa_cons (pv 3) pa_nil)) (C8.pe_gc (by rfl) T.md) (nomark _))))) (pss_one ps_never) pss_nil) (pss_cons (ps_set (i := 4) sc_Standing_init.nd rfl (Or.inl rfl) (pe_u c_first_wrong hr (by decide) (by rfl) (pa_cons (pv 2) (pa_cons (pv 3) pa_nil)))) (pss_cons (ps_if (pt_cmpR op_notN (pv 4) pe_non (nomark _)) (pss_one ps_never) pss_nil) (pss_cons (ps_if (pt_val (pe_u c_is_too_far hr (by decide) (by rfl) (pa_cons (pv 1) (pa_cons (pv 2) (pa_cons (pv 3) pa_nil))))) (pss_one ps_never) pss_nil) (pss_cons (ps_set (i := 4) sc_Standing_init.nd rfl (Or.inl rfl) (pe_u c_first_in_ring hr (by decide) (by rfl) (pa_cons (pe_lc rfl sc_Standing_init.nd (pi_tup (pv 3)) (blkOk_by (own := [("first", 5), ("need", 6), ("waits", 7)]) (N := N_Standing_init) (sc := defScope s_Standing_init) (by decide +kernel)) (fun _ _ _ _ _ => (pg_tupK (n := 3) K rfl (by rfl) (pgs_cons (pg_name (i := 5) sc_Standing_init.nd rfl (Or.inl rfl)) (pgs_cons (pg_name (i := 6) sc_Standing_init.nd rfl (Or.inl rfl)) (pgs_cons (pg_name (i := 7) sc_Standing_init.nd rfl (Or.inl rfl)) pgs_nil))))) (fun _ _ _ _ _ => pts_nil) (fun _ _ _ _ _ => (pv 7))) pa_nil))) (pss_cons (ps_if (pt_cmpR op_notN (pv 4) pe_non (nomark _)) (pss_one ps_never) pss_nil) (pss_cons (ps_fld (pv 0) (pv 1) rfl) (pss_cons (ps_fld (pv 0) (pv 2) rfl) (pss_one (ps_fld (pv 0) (pv 3) rfl)))))))))))), ?_⟩
    have w1 : within (.int cells) 1 E30 = true := within_int hc.1 hc.2
    have w2 : within (.int head) 0 E40 = true := within_int W.h0 W.h1
    refine ⟨_, rfl, .int cells, 1, E30, rfl, True.intro, true, congrArg V.bl w1, iteF ?_⟩
    refine ⟨_, rfl, .int head, E40, rfl, True.intro, true, congrArg V.bl w2, iteF ?_⟩
    refine ⟨_, rfl, .ref a, rfl, .inl ⟨xs, ha⟩, true, congrArg V.bl (bT_at ha), iteF ⟨_, rfl, a, xs, rfl, .inr (SqT.of ha), _, 200, rfl, rfl, false, congrArg V.bl (decide_eq_false ?_), iteF ?_⟩⟩
    · have := W.len
      have := hd.len
      omega
    refine ⟨_, rfl, _, rfl, head, a, xs, ds, rfl, ha, hd, W, fun H1 s1 => ?_⟩
    refine ⟨_, rfl, rfl, false, rfl, iteF ?_⟩
    refine ⟨_, rfl, _, rfl, _, rfl, cells, head, a, xs, ds, rfl, s1 _ _ ha, hd.same s1, hr0, false, rfl, iteF ?_⟩
    have hd1 := hd.same s1
    refine ⟨_, rfl, a, rfl, ⟨_, SqT.of (s1 _ _ ha)⟩, fun Dl hDl => lc_tup (K := K) (a := a) (xs := xs) (LcW H1 Dl ds) (lcW_0 hDl) (fun i H' _ p => SqT.of (p.2.1 _ _ (s1 _ _ ha))) ?_ ?_⟩
    · rintro i x H2 hi p
      obtain ⟨d, e1, t, q2, rfl, e2, e3⟩ := hd1.at_ i x hi
      refine ⟨t, _, rfl, SqT.of (p.2.1 _ _ e2), rfl, _, _, rfl, _, _, rfl, _, _, rfl, rfl, rfl, yes_ite ?_⟩
      exact ⟨_, rfl, lcW_s (Nat.le_trans W.len (by decide)) e1 e3 p⟩
    · rintro H2 p
      rw [hd.len] at p
      obtain ⟨s2, ys, e1, e2⟩ := lcW_e p
      obtain ⟨U, hU, hWU⟩ := W.good.few
      have lW : (waitsL ds).length = ds.length := List.length_map ..
      refine ⟨Dl, ys, waitsL ds, U, rfl, e1, e2, ⟨by omega, hWU⟩, by rw [lW]; exact W.good.inr, W.good.asc, W.nr, fun H3 s3 => ?_⟩
      have sN : Same H H3 := s1.trans (s2.trans s3)
      refine ⟨_, rfl, rfl, false, rfl, iteF ?_⟩
      refine ⟨_, rfl, _, rfl, s, C, dx, [], rfl, sN _ _ hs, T.cl, T.nC, (by first | exact (by decide : 0 < 1000) | exact (by decide : 1 < 1000) | exact (by decide : 2 < 1000) | exact (by decide : 3 < 1000)), ?_⟩
      refine ⟨_, rfl, _, rfl, s, C, dx, _, rfl, upd_same, T.cl, T.nH, (by first | exact (by decide : 0 < 1000) | exact (by decide : 1 < 1000) | exact (by decide : 2 < 1000) | exact (by decide : 3 < 1000)), ?_⟩
      refine ⟨_, rfl, _, rfl, s, C, dx, _, rfl, upd_same, T.cl, T.nD, (by first | exact (by decide : 0 < 1000) | exact (by decide : 1 < 1000) | exact (by decide : 2 < 1000) | exact (by decide : 3 < 1000)), ?_⟩
      refine q _ (by rw [upd_same]; rfl) fun b o hb e => ?_
      rw [upd_ne hb, upd_ne hb, upd_ne hb]
      exact sN b o e
theorem small3' : 3 < 1000 := by decide
theorem wf0 : WF 0 [] where
  h0 := Int.le_refl _
  h1 := by decide
  pre := ⟨0, Nat.le_refl _, fun i d h => by simp at h⟩
  fst := fun i d f h => by simp at h
  asc := fun i j d e f g _ h => by simp at h
  need := fun d h => by cases h
  good := ⟨fun ws h => by simp at h, fun ws h => by simp at h, [], by decide, fun ws h => by simp at h⟩
  nr := fun i ws h => by simp at h
  len := by decide
theorem c_raw_standing {f : Addr} (T : Txt K w mg C D) (df : Df K mg "raw_standing" s_raw_standing f)  (M : MakS P w K mg base 6 "Standing" C (spInit C)) : CalF P w K mg base 8 f "raw_standing" (spRaw C) := by
  refine calF_of df sc_raw_standing (fun vs H Q E h => ?_) (fun _ _ _ _ _ _ us hl => match us, hl with | [_, _, _], _ => rfl) (fun cdv A outer s H vs Q E hr h => ?_)
  · obtain ⟨cells, head, a, xs, rfl, _⟩ := h
    rfl
  · obtain ⟨cells, head, a, xs, rfl, ha, hl, q⟩ := h
    refine ⟨_, (pss_cons (ps_set (i := 3) sc_raw_standing.nd rfl (Or.inl rfl) (pe_mkS M hr (by decide) (by rfl) (pa_cons pe_int (pa_cons pe_int (pa_cons (pe_tup pa_nil) pa_nil))))) (pss_cons (ps_fld (pv 3) (pv 0) rfl) (pss_cons (ps_fld (pv 3) (pv 1) rfl) (pss_cons (ps_fld (pv 3) (pe_callTy call_tuple_of (by rfl) T.b_tuple bt_tuple (pa_cons (pv 2) pa_nil)) rfl) (pss_one (ps_ret (pv 3))))))), ?_⟩
    refine ⟨Nat.zero_le _, fun p hp s dx hs hdx hne => ?_⟩
    have sp1 : Same H (upd H p (.tup [])) := same_new hp
    have hps : p ≠ s := ne_of_none upd_same hs
    have hpd : p ≠ dx := ne_of_none upd_same hdx
    refine ⟨s, dx, 1, 0, p, [], [], rfl, upd_same, ?_, DsAt.nil, ⟨by decide, by decide⟩, wf0, fun d f h => by simp at h, fun H1 h1 h2 => ⟨rfl, ?_⟩⟩
    · rw [upd_ne hps, upd_ne hpd, upd_same]
    have sN : Same H H1 := sp1.trans (Same.made hs hdx fun b o e hb => h2 b o hb e)
    have hs0 : H s = none := Same.free sp1 hs
    refine ⟨_, rfl, _, rfl, s, C, dx, _, rfl, h1, T.cl, T.nC, (by first | exact (by decide : 0 < 1000) | exact (by decide : 1 < 1000) | exact (by decide : 2 < 1000) | exact (by decide : 3 < 1000)), ?_⟩
    refine ⟨_, rfl, _, rfl, s, C, dx, _, rfl, upd_same, T.cl, T.nH, (by first | exact (by decide : 0 < 1000) | exact (by decide : 1 < 1000) | exact (by decide : 2 < 1000) | exact (by decide : 3 < 1000)), ?_⟩
    have sM := same_upd (o := .ins C dx (putF "head" (.int head) (putF "cells" (.int cells) (stF (.int 1) (.int 0) (.ref p))))) (same_upd (o := .ins C dx (putF "cells" (.int cells) (stF (.int 1) (.int 0) (.ref p)))) sN hs0) hs0
    have ee : putF "deeds" (.ref a) (putF "head" (.int head) (putF "cells" (.int cells) (stF (.int 1) (.int 0) (.ref p)))) = stF (.int cells) (.int head) (.ref a) := rfl
    refine ⟨_, rfl, a, xs, rfl, ?_⟩
    rcases ha with ha | ha
    · refine .inl ⟨SqL.of (sM _ _ ha), fun l hl => ?_⟩
      have hls : l ≠ s := fun z => by
        rw [z, upd_same] at hl
        cases hl
      refine ⟨_, rfl, s, C, dx, _, rfl, by rw [upd_ne hls.symm]; exact upd_same, T.cl, T.nD, (by first | exact (by decide : 0 < 1000) | exact (by decide : 1 < 1000) | exact (by decide : 2 < 1000) | exact (by decide : 3 < 1000)), ?_⟩
      refine ⟨_, rfl, q _ s l (same_upd (same_snew sM hl) hs0) ⟨dx, by rw [upd_same]; rfl⟩ ?_⟩
      rw [upd_ne hls]
      exact upd_same
    · have has : a ≠ s := ne_of_none ha hs0
      refine .inr ⟨SqT.of (sM _ _ ha), ?_⟩
      refine ⟨_, rfl, s, C, dx, _, rfl, upd_same, T.cl, T.nD, (by first | exact (by decide : 0 < 1000) | exact (by decide : 1 < 1000) | exact (by decide : 2 < 1000) | exact (by decide : 3 < 1000)), ?_⟩
      refine ⟨_, rfl, q _ s a (same_upd sM hs0) ⟨dx, by rw [upd_same]; rfl⟩ ?_⟩
      rw [upd_ne has]
      exact sM _ _ ha
theorem c_waits_of {f : Addr} (T : Txt K w mg C D) (df : Df K mg "waits_of" s_waits_of f)   : CalF P w K mg base 1 f "waits_of" (spWaitsOf C) := by
  refine calF_of df sc_waits_of (fun vs H Q E h => ?_) (fun _ _ _ _ _ _ us hl => match us, hl with | [_], _ => rfl) (fun cdv A outer s H vs Q E hr h => ?_)
  · obtain ⟨s, cells, head, ds, rfl, _⟩ := h
    rfl
  · obtain ⟨s, cells, head, ds, rfl, ⟨a, xs, ⟨dx, hs⟩, ha, hd⟩, hl, q⟩ := h
    refine ⟨_, (pss_one (ps_ret (pe_lc rfl sc_waits_of.nd (pi_tup (pe_fld (pv 0) rfl)) (blkOk_by (own := [("first", 1), ("need", 2), ("waits", 3)]) (N := N_waits_of) (sc := defScope s_waits_of) (by decide +kernel)) (fun _ _ _ _ _ => (pg_tupK (n := 3) K rfl (by rfl) (pgs_cons (pg_name (i := 1) sc_waits_of.nd rfl (Or.inl rfl)) (pgs_cons (pg_name (i := 2) sc_waits_of.nd rfl (Or.inl rfl)) (pgs_cons (pg_name (i := 3) sc_waits_of.nd rfl (Or.inl rfl)) pgs_nil))))) (fun _ _ _ _ _ => pts_nil) (fun _ _ _ _ _ => (pv 3))))), ?_⟩
    refine ⟨_, rfl, s, C, dx, _, .ref a, rfl, hs, T.cl, T.nD, rfl, a, rfl, ⟨_, SqT.of ha⟩, fun Dl hDl => lc_tup (K := K) (a := a) (xs := xs) (LcW H Dl ds) (lcW_0 hDl) (fun i H' _ p => SqT.of (p.2.1 _ _ ha)) ?_ ?_⟩
    · rintro i x H2 hi p
      obtain ⟨d, e1, t, q2, rfl, e2, e3⟩ := hd.at_ i x hi
      refine ⟨t, _, rfl, SqT.of (p.2.1 _ _ e2), rfl, _, _, rfl, _, _, rfl, _, _, rfl, rfl, rfl, yes_ite ?_⟩
      exact ⟨_, rfl, lcW_s hl e1 e3 p⟩
    · rintro H2 p
      rw [hd.len] at p
      obtain ⟨s2, ys, e1, e2⟩ := lcW_e p
      exact q H2 Dl ys s2 e1 e2

end
end Rc
set_option maxHeartbeats 4000000
namespace Rc
open PySem PySem.Spec PyProof.Rows L2
section
variable {P : Program} {w : World} {K : PySem.W.Frag} {mg : Str → Option Value} {base : Heap} {C D : Addr}
/-! wishes: is_deed, is_row_wish, is_open_wish, is_wait_wish, is_wish, check_wish -/
theorem c_is_deed {f : Addr} (T : Txt K w mg C D) (df : Df K mg "is_deed" s_is_deed f) (c_is_within : Cal P w K mg base 2 "is_within" (spWithin C))  : CalF P w K mg base 3 f "is_deed" (spDeed C) := by
  refine calF_of df sc_is_deed (fun vs H Q E h => ?_) (fun _ _ _ _ _ _ us hl => match us, hl with | [_, _], _ => rfl) (fun cdv A outer s H vs Q E hr h => ?_)
  · obtain ⟨s, cells, head, ds, x, rfl, _⟩ := h
    rfl
  · obtain ⟨s, cells, head, ds, x, rfl, ⟨a, xs, ⟨dx, hs⟩, ha, hd⟩, kx, q⟩ := h
    refine ⟨_, (pss_one (ps_ret (pe_u c_is_within hr (by decide) (by rfl) (pa_cons (pv 1) (pa_cons pe_int (pa_cons (pe_op op_sub (pe_callB call_len_seq (by rfl) T.b_len bt_len (pa_cons (pe_fld (pv 0) rfl) pa_nil)) pe_int) pa_nil)))))), ?_⟩
    refine ⟨_, rfl, _, rfl, s, C, dx, _, .ref a, rfl, hs, T.cl, T.nD, rfl, a, xs, rfl, .inr (SqT.of ha), _, 1, rfl, rfl, x, 0, _, rfl, kx, ?_⟩
    rw [hd.len]
    exact q
theorem c_is_row_wish {f : Addr} (T : Txt K w mg C D) (df : Df K mg "is_row_wish" s_is_row_wish f) (c_is_deed : Cal P w K mg base 3 "is_deed" (spDeed C)) (c_is_within : Cal P w K mg base 2 "is_within" (spWithin C)) (c_is_number : Cal P w K mg base 3 "is_number" (spNumber C))  : CalF P w K mg base 4 f "is_row_wish" (spRowW C) := by
  refine calF_of df sc_is_row_wish (fun vs H Q E h => ?_) (fun _ _ _ _ _ _ us hl => match us, hl with | [_, _], _ => rfl) (fun cdv A outer s H vs Q E hr h => ?_)
  · obtain ⟨s, cells, head, ds, t, u, a, b, c, rfl, _⟩ := h
    rfl
  · obtain ⟨s, cells, head, ds, t, u, a, b, c, rfl, hst, ht, ka, kb, kc, q⟩ := h
    refine ⟨_, (pss_one (ps_ret (pe_and (pe_u c_is_deed hr (by decide) (by rfl) (pa_cons (pv 0) (pa_cons (pe_ix ix_tup (pv 1) pe_int (fun _ _ => rfl)) pa_nil))) (pe_and (pe_u c_is_within hr (by decide) (by rfl) (pa_cons (pe_ix ix_tup (pv 1) pe_int (fun _ _ => rfl)) (pa_cons pe_int (pa_cons (C8.pe_gc (by rfl) T.mc) pa_nil)))) (pe_one (pe_u c_is_number hr (by decide) (by rfl) (pa_cons (pe_ix ix_tup (pv 1) pe_int (fun _ _ => rfl)) (pa_cons (C8.pe_gc (by rfl) T.mc) pa_nil)))))))), ?_⟩
    unfold rowB at q
    refine ⟨_, rfl, _, rfl, t, _, 1, a, rfl, rfl, SqT.of ht, rfl, s, cells, head, ds, a, rfl, hst, ka, _, rfl, ite2 (fun hb => ?_) (fun hb => ?_)⟩
    · rw [hb, Bool.true_and] at q
      refine ⟨_, rfl, t, _, 2, b, rfl, rfl, SqT.of ht, rfl, b, 1, E30, rfl, kb, _, rfl, ite2 (fun hb => ?_) (fun hb => ?_)⟩
      · rw [hb, Bool.true_and] at q
        exact ⟨_, rfl, t, _, 3, c, rfl, rfl, SqT.of ht, rfl, c, E30, rfl, kc, q⟩
      · rw [Bool.eq_false_iff.mpr hb, Bool.false_and] at q
        exact q
    · rw [Bool.eq_false_iff.mpr hb, Bool.false_and] at q
      exact q
theorem sz1 : 1 ≤ sizeLine := by decide
theorem sz2 : 2 ≤ sizeLine := by decide
theorem sz3 : 3 ≤ sizeLine := by decide
theorem sz4 : 4 ≤ sizeLine := by decide
theorem notF {b : Bool} (h : ¬ (!b) = true) : b = true := by
  cases b with
  | true => rfl
  | false => exact absurd rfl h
theorem notT {b : Bool} (h : (!b) = true) : b = false := by
  cases b with
  | true => cases h
  | false => rfl
theorem c_is_open_wish {f : Addr} (T : Txt K w mg C D) (df : Df K mg "is_open_wish" s_is_open_wish f) (c_is_number : Cal P w K mg base 3 "is_number" (spNumber C)) (c_is_lot : Cal P w K mg base 3 "is_lot" (spLot C))  : CalF P w K mg base 4 f "is_open_wish" (spOpenW C) := by
  refine calF_of df sc_is_open_wish (fun vs H Q E h => ?_) (fun _ _ _ _ _ _ us hl => match us, hl with | [_, _], _ => rfl) (fun cdv A outer s H vs Q E hr h => ?_)
  · obtain ⟨s, cells, head, ds, t, u, a, b, c, rfl, _⟩ := h
    rfl
  · obtain ⟨s, cells, head, ds, t, u, a, b, c, rfl, ⟨p, xs, ⟨dx, hs⟩, hp, hd⟩, ht, ka, kb, kc, q⟩ := h
    refine ⟨_, (pss_cons (ps_if (PW.pt (pw_or (pt_cmpR op_ge (pe_callB call_len_seq (by rfl) T.b_len bt_len (pa_cons (pe_fld (pv 0) rfl) pa_nil)) (C8.pe_gc (by rfl) T.md) (nomark _)) (pw_or (pt_not (pt_val (pe_u c_is_number hr (by decide) (by rfl) (pa_cons (pe_ix ix_tup (pv 1) pe_int (fun _ _ => rfl)) (pa_cons (C8.pe_gc (by rfl) T.mc) pa_nil))))) (pw_or1 (pt_not (pt_val (pe_u c_is_number hr (by decide) (by rfl) (pa_cons (pe_ix ix_tup (pv 1) pe_int (fun _ _ => rfl)) (pa_cons (C8.pe_gc (by rfl) T.mc) pa_nil))))))))) (pss_one (ps_ret pe_bl)) pss_nil) (pss_one (ps_ret (pe_u c_is_lot hr (by decide) (by rfl) (pa_cons (pe_ix ix_tup (pv 1) pe_int (fun _ _ => rfl)) (pa_cons (pe_callB call_len_seq (by rfl) T.b_len bt_len (pa_cons (pe_fld (pv 0) rfl) pa_nil)) pa_nil)))))), ?_⟩
    unfold openB at q
    refine ⟨_, rfl, s, C, dx, _, .ref p, rfl, hs, T.cl, T.nD, rfl, p, xs, rfl, .inr (SqT.of hp), _, 200, rfl, rfl, _, rfl, ?_⟩
    have hl := hd.len
    refine ite2 (fun h1 => ?_) (fun h1 => ?_)
    · have h2 : (200 : Int) ≤ (xs.length : Nat) := of_decide_eq_true h1
      have e : decide (ds.length < 200) = false := decide_eq_false (by omega)
      rw [e, Bool.false_and] at q
      exact q
    · have h2 : ¬ (200 : Int) ≤ (xs.length : Nat) := fun z => h1 (decide_eq_true z)
      have e : decide (ds.length < 200) = true := decide_eq_true (by omega)
      rw [e, Bool.true_and] at q
      refine ⟨_, rfl, t, _, 1, a, rfl, rfl, SqT.of ht, rfl, a, E30, rfl, ka, _, rfl, ite2 (fun h1 => ?_) (fun h1 => ?_)⟩
      · rw [notT h1, Bool.false_and] at q
        exact q
      · rw [notF h1, Bool.true_and] at q
        refine ⟨_, rfl, t, _, 2, b, rfl, rfl, SqT.of ht, rfl, b, E30, rfl, kb, _, rfl, ite2 (fun h1 => ?_) (fun h1 => ?_)⟩
        · rw [notT h1, Bool.false_and] at q
          exact q
        · rw [notF h1, Bool.true_and] at q
          refine ⟨_, rfl, t, _, 3, c, rfl, rfl, SqT.of ht, rfl, _, rfl, s, C, dx, _, .ref p, rfl, hs, T.cl, T.nD, rfl, p, xs, rfl, .inr (SqT.of hp), c, _, rfl, kc, ?_⟩
          rw [hl]
          exact q
theorem waitB_true {ds : List Deed} {a b : V} (h : WaitOk ds a b) : waitB ds a b = true := by
  unfold waitB
  exact @decide_eq_true _ (Classical.propDecidable _) h
theorem waitB_false {ds : List Deed} {a b : V} (h : ¬ WaitOk ds a b) : waitB ds a b = false := by
  unfold waitB
  exact @decide_eq_false _ (Classical.propDecidable _) h
theorem waitOk_w {ds : List Deed} {a b : V} (h : WaitOk ds a b) : within a 0 ((ds.length : Int) - 1) = true ∧ within b 0 ((ds.length : Int) - 1) = true := by
  obtain ⟨d, o, x, rfl, rfl, hd, ho, _⟩ := h
  have := (List.getElem?_eq_some_iff.mp hd).1
  exact ⟨within_int (by omega) (by omega), within_int (by omega) (by omega)⟩
theorem c_is_wait_wish {f : Addr} (T : Txt K w mg C D) (df : Df K mg "is_wait_wish" s_is_wait_wish f) (c_is_deed : Cal P w K mg base 3 "is_deed" (spDeed C)) (c_waits_of : Cal P w K mg base 1 "waits_of" (spWaitsOf C)) (c_waited_for : Cal P w K mg base 1 "waited_for" (spWaited))  : CalF P w K mg base 4 f "is_wait_wish" (spWaitW C) := by
  refine calF_of df sc_is_wait_wish (fun vs H Q E h => ?_) (fun _ _ _ _ _ _ us hl => match us, hl with | [_, _], _ => rfl) (fun cdv A outer s H vs Q E hr h => ?_)
  · obtain ⟨s, cells, head, ds, t, u, a, b, rfl, _⟩ := h
    rfl
  · obtain ⟨s, cells, head, ds, t, u, a, b, rfl, hst, hl, hg, ht, ka, kb, q⟩ := h
    refine ⟨_, (pss_cons (ps_asg (pe_slice sl_tupA (pv 1) (po_some pe_int) po_none) (pg_tup (by rfl) (pgs_cons (pg_name (i := 2) sc_is_wait_wish.nd rfl (Or.inl rfl)) (pgs_cons (pg_name (i := 3) sc_is_wait_wish.nd rfl (Or.inl rfl)) pgs_nil)))) (pss_cons (ps_if (PW.pt (pw_or (pt_not (pt_val (pe_u c_is_deed hr (by decide) (by rfl) (pa_cons (pv 0) (pa_cons (pv 2) pa_nil))))) (pw_or (pt_not (pt_val (pe_u c_is_deed hr (by decide) (by rfl) (pa_cons (pv 0) (pa_cons (pv 3) pa_nil))))) (pw_or1 (pt_cmpR op_eq (pv 2) (pv 3) (nomark _)))))) (pss_one (ps_ret pe_bl)) pss_nil) (pss_cons (ps_set (i := 4) sc_is_wait_wish.nd rfl (Or.inl rfl) (pe_u c_waits_of hr (by decide) (by rfl) (pa_cons (pv 0) pa_nil))) (pss_one (ps_ret (pe_and (pe_cmpR op_notIn_seq (pv 3) (pe_ix ix_list (pv 4) (pv 2) (fun _ _ => rfl)) (by rfl)) (pe_one (pe_cmpR op_notIn_seq (pv 2) (pe_u c_waited_for hr (by decide) (by rfl) (pa_cons (pv 4) (pa_cons (pe_tup (pa_cons (pv 3) pa_nil)) pa_nil))) (by rfl))))))))), ?_⟩
    refine ⟨_, rfl, 1, rfl, t, _, rfl, SqT.of ht, fun z => absurd z.1 (by decide : ¬ HT.sIx 3 0 (some 1) = 0), fun _ p hp => ⟨p, [a, b], rfl, SqT.of upd_same, rfl, _, _, rfl, _, _, rfl, rfl, ?_⟩⟩
    have s1 : Same H (upd H p (.tup [a, b])) := same_new hp
    have hst1 := hst.same s1
    refine ⟨_, rfl, _, rfl, s, cells, head, ds, a, rfl, hst1, ka.same s1, _, rfl, ite2 (fun h1 => ?_) (fun h1 => ?_)⟩
    · have e : waitB ds a b = false := waitB_false fun z => by
        rw [(waitOk_w z).1] at h1
        cases h1
      have g := q _ s1
      rw [e] at g
      exact g
    obtain ⟨i, rfl, i1, i2⟩ := within_of (notF h1)
    refine ⟨_, rfl, _, rfl, s, cells, head, ds, b, rfl, hst1, kb.same s1, _, rfl, ite2 (fun h1 => ?_) (fun h1 => ?_)⟩
    · have e : waitB ds (.int i) b = false := waitB_false fun z => by
        rw [(waitOk_w z).2] at h1
        cases h1
      have g := q _ s1
      rw [e] at g
      exact g
    obtain ⟨j, rfl, j1, j2⟩ := within_of (notF h1)
    obtain ⟨d, rfl⟩ : ∃ d : Nat, i = (d : Int) := ⟨i.toNat, by omega⟩
    obtain ⟨o, rfl⟩ : ∃ o : Nat, j = (o : Int) := ⟨j.toNat, by omega⟩
    refine ⟨_, rfl, _, rfl, rfl, _, rfl, ite2 (fun h1 => ?_) (fun h1 => ?_)⟩
    · have e0 : V.int (d : Int) = V.int (o : Int) := of_decide_eq_true h1
      have e : waitB ds (.int (d : Int)) (.int (o : Int)) = false := waitB_false fun z => by
        obtain ⟨d', o', x, q1, q2, _, _, ne, _⟩ := z
        rw [q1, q2] at e0
        injection e0 with e1
        omega
      have g := q _ s1
      rw [e] at g
      exact g
    have hne : d ≠ o := fun z => h1 (by rw [z]; exact decide_eq_true rfl)
    obtain ⟨x, hx⟩ : ∃ x, ds[d]? = some x := ⟨_, List.getElem?_eq_getElem (by omega)⟩
    have ho : o < ds.length := by omega
    refine ⟨_, rfl, s, cells, head, ds, rfl, hst1, by omega, fun H2 p2 ys s2 h2 hW => ?_⟩
    have hxw : (waitsL ds)[d]? = some x.2.2 := by rw [List.getElem?_map, hx]; rfl
    obtain ⟨ws, q2, e1, e2, e3⟩ := hW.get (i := d) (List.getElem?_eq_some_iff.mp hxw).1
    rw [hxw] at e1
    cases e1
    refine ⟨_, rfl, _, rfl, _, rfl, p2, ys, (d : Int), .ref q2, rfl, rfl, SqL.of h2, atI_nat e2, q2, iV x.2.2, rfl, .inr (SqT.of e3), rfl, all_flat _, ?_⟩
    rw [if_pos rfl, inV_int]
    by_cases hm : (o : Int) ∈ x.2.2
    · rw [decide_eq_true hm]
      refine ⟨_, rfl, iteF ?_⟩
      have e : waitB ds (.int (d : Int)) (.int (o : Int)) = false := waitB_false fun z => by
        obtain ⟨d', o', y, q1, q2, q3, _, _, ne, _⟩ := z
        injection q1 with q1
        injection q2 with q2
        have q1 : d = d' := by omega
        subst q1
        rw [hx] at q3
        cases q3
        exact ne (by rw [← q2]; exact hm)
      have g := q _ (s1.trans s2)
      rw [e] at g
      exact g
    rw [decide_eq_false hm]
    refine ⟨_, rfl, iteT ?_⟩
    obtain ⟨U, hU, hWU⟩ := hg.few
    have lW : (waitsL ds).length = ds.length := List.length_map ..
    refine ⟨_, rfl, _, rfl, _, rfl, sz1, fun p3 hp3 => ?_⟩
    have s3 : Same H2 (upd H2 p3 (.tup [.int (o : Int)])) := same_new hp3
    refine ⟨p2, p3, ys, waitsL ds, [(o : Int)], (o : Int) :: U, rfl, s3 _ _ h2, hW.same s3, upd_same, List.nodup_cons.mpr ⟨by simp, List.nodup_nil⟩, ⟨by rw [List.length_cons]; omega, fun x hx => ?_, fun ws hws x hx => List.mem_cons_of_mem _ (hWU ws hws x hx)⟩, ?_, by rw [lW]; exact hg.inr, fun H4 p4 L s4 h4 hL => ?_⟩
    · rw [List.mem_singleton.mp hx]
      exact List.mem_cons_self ..
    · intro x hx
      rw [List.mem_singleton.mp hx, lW]
      omega
    refine ⟨p4, iV L, rfl, .inr (SqT.of h4), rfl, all_flat L, ?_⟩
    rw [if_pos rfl, inV_int]
    have g := q _ (s1.trans (s2.trans (s3.trans s4)))
    by_cases hr2 : Reach (waitsL ds) [(o : Int)] (d : Int)
    · have e : waitB ds (.int (d : Int)) (.int (o : Int)) = false := waitB_false fun z => by
        obtain ⟨d', o', y, q1, q2, _, _, _, _, nr⟩ := z
        injection q1 with q1
        injection q2 with q2
        exact nr (by rw [← q1, ← q2]; exact hr2)
      rw [e] at g
      rw [decide_eq_true ((hL _).mpr hr2)]
      exact g
    · have e : waitB ds (.int (d : Int)) (.int (o : Int)) = true := waitB_true ⟨d, o, x, rfl, rfl, hx, ho, hne, hm, hr2⟩
      rw [e] at g
      rw [decide_eq_false fun z => hr2 ((hL _).mp z)]
      exact g
theorem tupOf_same {H H' : Hp} (s : Same H H') : ∀ {x : V}, Kb C H x → tupOf H' x = tupOf H x
  | .ref a, h => by
    show tupO (H' a) = tupO (H a)
    rcases h with ⟨xs, e⟩ | ⟨xs, e⟩ | ⟨kvs, e⟩ | ⟨dx, fs, e⟩ <;> rw [e, s _ _ e]
  | .non, _ => rfl
  | .bl _, _ => rfl
  | .int _, _ => rfl
  | .str _, _ => rfl
theorem lotB_same {H H' : Hp} {m : Int} {x : V} (s : Same H H') (k : Kb C H x) : lotB m H x = lotB m H' x := by
  unfold lotB
  rw [tupOf_same s k]
theorem dueB_at {ds : List Deed} {H : Hp} {t : Addr} {xs : List V} (h : H t = some (.tup xs)) : dueB ds H (.ref t) = dueT ds H xs := by
  unfold dueB
  rw [tupOf_at h]
/-- the size of a wish by its word -/
def sizeN (z : Str) : Int := if z = ("row" : Str) then 4 else if z = ("open" : Str) then 4 else if z = ("wait" : Str) then 3 else 0
theorem sizeV_N (z : Str) : (sizeV z).getD (.int 0) = .int (sizeN z) := by
  unfold sizeV sizeN
  by_cases h1 : z = ("row" : Str)
  · rw [if_pos h1, if_pos h1]
    rfl
  · rw [if_neg h1, if_neg h1]
    by_cases h2 : z = ("open" : Str)
    · rw [if_pos h2, if_pos h2]
      rfl
    · rw [if_neg h2, if_neg h2]
      by_cases h3 : z = ("wait" : Str)
      · rw [if_pos h3, if_pos h3]
        rfl
      · rw [if_neg h3, if_neg h3]
        rfl
theorem ro : ("row" : Str) ≠ ("open" : Str) := by decide
theorem rw_ : ("row" : Str) ≠ ("wait" : Str) := by decide
theorem ow : ("open" : Str) ≠ ("wait" : Str) := by decide
/-- what is no wish by its size -/
theorem due_size {ds : List Deed} {H : Hp} {z : Str} {r : List V} (h : sizeN z ≠ ((r.length + 1 : Nat) : Int)) : dueW ds H z r = false := by
  unfold sizeN at h
  match r with
  | [] => rfl
  | [a] => rfl
  | [a, b] =>
    show (if z = ("wait" : Str) then waitB ds a b else false) = false
    by_cases e : z = ("wait" : Str)
    · subst e
      rw [if_neg rw_.symm, if_neg ow.symm, if_pos rfl] at h
      exact absurd rfl h
    · rw [if_neg e]
  | [a, b, c] =>
    show (if z = ("row" : Str) then rowB ds.length a b c else if z = ("open" : Str) then openB ds.length H a b c else false) = false
    by_cases e : z = ("row" : Str)
    · subst e
      rw [if_pos rfl] at h
      exact absurd rfl h
    · rw [if_neg e]
      by_cases e2 : z = ("open" : Str)
      · subst e2
        rw [if_neg ro.symm, if_pos rfl] at h
        exact absurd rfl h
      · rw [if_neg e2]
  | a :: b :: c :: d :: r => rfl
theorem size_case {z : Str} {n : Nat} (h3 : 3 ≤ n) (h : sizeN z = (n : Int)) : (z = ("row" : Str) ∧ n = 4) ∨ (z = ("open" : Str) ∧ n = 4) ∨ (z = ("wait" : Str) ∧ n = 3) := by
  unfold sizeN at h
  by_cases e1 : z = ("row" : Str)
  · rw [if_pos e1] at h
    exact .inl ⟨e1, by omega⟩
  · rw [if_neg e1] at h
    by_cases e2 : z = ("open" : Str)
    · rw [if_pos e2] at h
      exact .inr (.inl ⟨e2, by omega⟩)
    · rw [if_neg e2] at h
      by_cases e3 : z = ("wait" : Str)
      · rw [if_pos e3] at h
        exact .inr (.inr ⟨e3, by omega⟩)
      · rw [if_neg e3] at h
        omega
theorem due_len {ds : List Deed} {H : Hp} : ∀ {xs : List V}, xs.length < 3 → dueT ds H xs = false
  | [], _ => rfl
  | [x], _ => by cases x <;> rfl
  | [x, y], _ => by cases x <;> rfl
  | _ :: _ :: _ :: _, h => absurd h (by simp)
theorem due_str {ds : List Deed} {H : Hp} {x : V} {r : List V} (h : bS x = false) : dueT ds H (x :: r) = false := by
  cases x <;> first | rfl | cases h
theorem bS_str {x : V} (h : bS x = true) : ∃ z, x = .str z := by
  cases x <;> first | exact ⟨_, rfl⟩ | cases h
theorem c_is_wish {f : Addr} (T : Txt K w mg C D) (df : Df K mg "is_wish" s_is_wish f)  {f1 f2 f3 : Addr} (c_is_row_wish : CalF P w K mg base 4 f1 "is_row_wish" (spRowW C)) (c_is_open_wish : CalF P w K mg base 4 f2 "is_open_wish" (spOpenW C)) (c_is_wait_wish : CalF P w K mg base 4 f3 "is_wait_wish" (spWaitW C)) : CalF P w K mg base 5 f "is_wish" (spIsWish C) := by
  refine calF_of df sc_is_wish (fun vs H Q E h => ?_) (fun _ _ _ _ _ _ us hl => match us, hl with | [_, _], _ => rfl) (fun cdv A outer s H vs Q E hr h => ?_)
  · obtain ⟨s, cells, head, ds, x, rfl, _⟩ := h
    rfl
  · obtain ⟨s, cells, head, ds, x, rfl, hst, hl, hg, kx, q⟩ := h
    obtain ⟨es, n, D1⟩ := T.kd
    refine ⟨_, (pss_cons (ps_if (PW.pt (pw_or (pt_not (pt_val (pe_callB (isi_tup T.ins T.kT) (by rfl) T.b_isinstance bt_isinstance (pa_cons (pv 1) (pa_cons (pe_bltn (v := .ty "tuple") (by rfl) T.b_tuple bt_tuple rfl) pa_nil))))) (pw_or (pt_cmpR op_lt (pe_callB call_len_seq (by rfl) T.b_len bt_len (pa_cons (pv 1) pa_nil)) pe_int (nomark _)) (pw_or1 (pt_not (pt_val (pe_callB (isi_str T.ins T.kS) (by rfl) T.b_isinstance bt_isinstance (pa_cons (pe_ix ix_tup (pv 1) pe_int (fun _ _ => rfl)) (pa_cons (pe_bltn (v := .ty "str") (by rfl) T.b_str bt_str rfl) pa_nil))))))))) (pss_one (ps_ret pe_bl)) pss_nil) (pss_cons (ps_if (pt_cmpR op_ne (pe_kget2 D1 (C8.pe_gc (by rfl) T.szs) (pe_ix ix_tup (pv 1) pe_int (fun _ _ => rfl)) pe_int ⟨by rfl, by rfl, by rfl, by rfl⟩) (pe_callB call_len_seq (by rfl) T.b_len bt_len (pa_cons (pv 1) pa_nil)) (nomark _)) (pss_one (ps_ret pe_bl)) pss_nil) (pss_cons (ps_set (i := 2) sc_is_wish.nd rfl (Or.inl rfl) (pe_dget (hu_of hr) (pe_disp (pps_cons (C8.pe_gc (by rfl) T.row) (C8.pe_gc (by rfl) c_is_row_wish.val) (pps_cons (C8.pe_gc (by rfl) T.opn) (C8.pe_gc (by rfl) c_is_open_wish.val) (pps_cons (C8.pe_gc (by rfl) T.wai) (C8.pe_gc (by rfl) c_is_wait_wish.val) pps_nil))) (by rfl) (by rfl) (fun z => by cases z) (by decide)) (pe_ix ix_tup (pv 1) pe_int (fun _ _ => rfl)) (fun _ _ => rfl))) (pss_one (ps_ret (pe_callJ (i := 2) hr rfl (Or.inl rfl) (pa_cons (pv 0) (pa_cons (pv 1) pa_nil)))))))), ?_⟩
    refine ⟨_, rfl, x, rfl, kx.kb, _, rfl, ite2 (fun h1 => ?_) (fun h1 => ?_)⟩
    · have e : dueB ds H x = false := by
        have h2 := notT h1
        rw [bT_tup] at h2
        unfold dueB
        cases z : tupOf H x with
        | none => rfl
        | some xs =>
          rw [z] at h2
          cases h2
      have g := q H (Same.refl _)
      rw [e] at g
      exact g
    have h2 := notF h1
    rw [bT_tup] at h2
    obtain ⟨xs, hx⟩ := Option.isSome_iff_exists.mp h2
    obtain ⟨t, rfl, ht⟩ := tupOf_some hx
    have hdue : dueB ds H (.ref t) = dueT ds H xs := dueB_at ht
    refine ⟨_, rfl, t, xs, rfl, .inr (SqT.of ht), _, 3, rfl, rfl, _, rfl, ite2 (fun h1 => ?_) (fun h1 => ?_)⟩
    · have h3 : ((xs.length : Nat) : Int) < 3 := of_decide_eq_true h1
      have g := q H (Same.refl _)
      rw [hdue, due_len (by omega)] at g
      exact g
    have h3 : ¬ ((xs.length : Nat) : Int) < 3 := fun z => h1 (decide_eq_true z)
    obtain ⟨x0, r, rfl⟩ : ∃ x0 r, xs = x0 :: r := by
      cases xs with
      | nil => exact absurd (by decide : ((([] : List V).length : Nat) : Int) < 3) h3
      | cons a b => exact ⟨a, b, rfl⟩
    have k0 : Kn C 1 H x0 := kx.2 t _ rfl ht x0 (List.mem_cons_self ..)
    have at0 : atI (x0 :: r) 0 = some x0 := atI_nat (j := 0) rfl
    refine ⟨_, rfl, t, _, 0, x0, rfl, rfl, SqT.of ht, at0, x0, rfl, k0.kb, _, rfl, ite2 (fun h1 => ?_) (fun h1 => ?_)⟩
    · have g := q H (Same.refl _)
      rw [hdue, due_str (notT h1)] at g
      exact g
    obtain ⟨z, rfl⟩ := bS_str (notF h1)
    have hdue2 : dueB ds H (.ref t) = dueW ds H z r := hdue
    obtain ⟨u, hu1, hu2⟩ := T.szv z
    refine ⟨rfl, _, rfl, t, _, 0, .str z, rfl, rfl, SqT.of ht, at0, z, u, sizeV z, rfl, hu1, hu2, _, rfl, t, _, rfl, .inr (SqT.of ht), ?_⟩
    rw [sizeV_N]
    refine ⟨rfl, _, rfl, ite2 (fun h1 => ?_) (fun h1 => ?_)⟩
    · have h4 : decide (V.int (sizeN z) = V.int (((V.str z :: r).length : Nat) : Int)) = false := notT h1
      have g := q H (Same.refl _)
      rw [hdue2, due_size fun e => by
        rw [e] at h4
        rw [decide_eq_true (by rfl)] at h4
        cases h4] at g
      exact g
    have h4 : decide (V.int (sizeN z) = V.int (((V.str z :: r).length : Nat) : Int)) = true := notF h1
    have h5 : sizeN z = ((r.length + 1 : Nat) : Int) := by
      have e := of_decide_eq_true h4
      injection e
    refine fun p hp => ⟨upd_same, [(Sum.inr "row", .ref f1), (Sum.inr "open", .ref f2), (Sum.inr "wait", .ref f3)], rfl, (by decide : 3 ≤ 15), ?_⟩
    have s1 : Same H (upd (upd H p (.dK [])) p (.dK (mergeK [] [(Sum.inr "row", .ref f1), (Sum.inr "open", .ref f2), (Sum.inr "wait", .ref f3)]))) := same_upd (same_new hp) hp
    have ht1 := s1 _ _ ht
    refine ⟨_, rfl, t, _, 0, .str z, rfl, rfl, SqT.of ht1, at0, ?_⟩
    have k1 : ∀ y ∈ r, Kn C 1 H y := fun y hy => kx.2 t _ rfl ht y (List.mem_cons_of_mem _ hy)
    have g := fun H' s' => q H' (s1.trans s')
    rw [hdue2] at g
    have h3' : 3 ≤ r.length + 1 := by
      have e : (V.str z :: r).length = r.length + 1 := rfl
      rw [e] at h3
      omega
    rcases size_case h3' h5 with ⟨rfl, hn⟩ | ⟨rfl, hn⟩ | ⟨rfl, hn⟩
    · obtain ⟨a, b, c, rfl⟩ : ∃ a b c, r = [a, b, c] := by
        match r, hn with
        | [a, b, c], _ => exact ⟨a, b, c, rfl⟩
      have g2 := g _ (Same.refl _)
      have e : dueW ds H ("row" : Str) [a, b, c] = rowB ds.length a b c := by
        show (if ("row" : Str) = ("row" : Str) then rowB ds.length a b c else if ("row" : Str) = ("open" : Str) then openB ds.length H a b c else false) = _
        rw [if_pos rfl]
      rw [e] at g2
      refine ⟨p, .ref f1, rfl, DGet.k (k := Sum.inr "row") upd_same, f1, spRowW C, rfl, ⟨_, c_is_row_wish⟩, _, rfl, _, rfl, s, cells, head, ds, t, _, a, b, c, rfl, hst.same s1, ht1, ?_, ?_, ?_, g2⟩
      · exact (k1 a (by simp)).kb.same s1
      · exact (k1 b (by simp)).kb.same s1
      · exact (k1 c (by simp)).kb.same s1
    · obtain ⟨a, b, c, rfl⟩ : ∃ a b c, r = [a, b, c] := by
        match r, hn with
        | [a, b, c], _ => exact ⟨a, b, c, rfl⟩
      have g2 := g _ (Same.refl _)
      have e : dueW ds H ("open" : Str) [a, b, c] = openB ds.length H a b c := by
        show (if ("open" : Str) = ("row" : Str) then rowB ds.length a b c else if ("open" : Str) = ("open" : Str) then openB ds.length H a b c else false) = _
        rw [if_neg ro.symm, if_pos rfl]
      have kc := (k1 c (by simp))
      have e2 : openB ds.length H a b c = openB ds.length (upd (upd H p (.dK [])) p (.dK (mergeK [] [(Sum.inr "row", .ref f1), (Sum.inr "open", .ref f2), (Sum.inr "wait", .ref f3)]))) a b c := by
        unfold openB
        rw [lotB_same s1 kc.kb]
      rw [e, e2] at g2
      refine ⟨p, .ref f2, rfl, DGet.k (k := Sum.inr "open") upd_same, f2, spOpenW C, rfl, ⟨_, c_is_open_wish⟩, _, rfl, _, rfl, s, cells, head, ds, t, _, a, b, c, rfl, hst.same s1, ht1, ?_, ?_, ?_, g2⟩
      · exact (k1 a (by simp)).kb.same s1
      · exact (k1 b (by simp)).kb.same s1
      · exact kc.same s1
    · obtain ⟨a, b, rfl⟩ : ∃ a b, r = [a, b] := by
        match r, hn with
        | [a, b], _ => exact ⟨a, b, rfl⟩
      have e : dueW ds H ("wait" : Str) [a, b] = waitB ds a b := by
        show (if ("wait" : Str) = ("wait" : Str) then waitB ds a b else false) = _
        rw [if_pos rfl]
      rw [e] at g
      refine ⟨p, .ref f3, rfl, DGet.k (k := Sum.inr "wait") upd_same, f3, spWaitW C, rfl, ⟨_, c_is_wait_wish⟩, _, rfl, _, rfl, s, cells, head, ds, t, _, a, b, rfl, hst.same s1, hl, hg, ht1, ?_, ?_, g⟩
      · exact (k1 a (by simp)).kb.same s1
      · exact (k1 b (by simp)).kb.same s1
theorem c_check_wish {f : Addr} (T : Txt K w mg C D) (df : Df K mg "check_wish" s_check_wish f) (c_is_wish : Cal P w K mg base 5 "is_wish" (spIsWish C))  : CalF P w K mg base 6 f "check_wish" (spCheckWish C) := by
  refine calF_of df sc_check_wish (fun vs H Q E h => ?_) (fun _ _ _ _ _ _ us hl => match us, hl with | [_, _], _ => rfl) (fun cdv A outer s H vs Q E hr h => ?_)
  · obtain ⟨s, cells, head, ds, x, rfl, _⟩ := h
    rfl
  · obtain ⟨s, cells, head, ds, x, rfl, hst, hl, hg, kx, hdue, q⟩ := h
    refine ⟨_, (pss_one (ps_if (pt_not (pt_val (pe_u c_is_wish hr (by decide) (by rfl) (pa_cons (pv 0) (pa_cons (pv 1) pa_nil))))) (pss_one ps_never) pss_nil)), ?_⟩
    exact ⟨_, rfl, _, rfl, s, cells, head, ds, x, rfl, hst, hl, hg, kx, fun H' s' => ⟨true, congrArg V.bl hdue, iteF (q H' s')⟩⟩

end
end Rc
set_option maxHeartbeats 4000000
namespace Rc
open PySem PySem.Spec PyProof.Rows L2
section
variable {P : Program} {w : World} {K : PySem.W.Frag} {mg : Str → Option Value} {base : Heap} {C D : Addr}
/-! behind a wish: renumbered, written_many -/
def kvO : Nat → List Int → List (Key × V)
  | _, [] => []
  | k, x :: r => (Sum.inl x, V.int (k : Nat)) :: kvO (k + 1) r
theorem kvO_len : ∀ (k : Nat) (l : List Int), (kvO k l).length = l.length
  | _, [] => rfl
  | k, x :: r => by
    show (kvO (k + 1) r).length + 1 = r.length + 1
    rw [kvO_len (k + 1) r]
theorem kvO_snoc (y : Int) : ∀ (k : Nat) (l : List Int), kvO k (l ++ [y]) = kvO k l ++ [(Sum.inl y, V.int ((k + l.length : Nat)))]
  | _, [] => rfl
  | k, x :: r => by
    show (Sum.inl x, V.int (k : Nat)) :: kvO (k + 1) (r ++ [y]) = (Sum.inl x, V.int (k : Nat)) :: (kvO (k + 1) r ++ [(Sum.inl y, V.int ((k + (r.length + 1) : Nat)))])
    rw [kvO_snoc y (k + 1) r]
    have e : k + 1 + r.length = k + (r.length + 1) := by omega
    rw [e]
theorem kvO_val (x : Int) : ∀ (k : Nat) (l : List Int), valV (kvO k l) (Sum.inl x : Key) = if x ∈ l then some (.int ((k + l.idxOf x : Nat))) else none
  | _, [] => rfl
  | k, y :: r => by
    show valV ((Sum.inl y, V.int (k : Nat)) :: kvO (k + 1) r) (Sum.inl x : Key) = _
    by_cases e : y = x
    · subst e
      rw [valV_pos rfl, if_pos (List.mem_cons_self ..), List.idxOf_cons_self]
      rfl
    · rw [valV_neg (fun z => e (by injection z)), kvO_val x (k + 1) r]
      have hb : (y == x) = false := by simpa using e
      by_cases h : x ∈ r
      · rw [if_pos h, if_pos (List.mem_cons_of_mem _ h), List.idxOf_cons, hb]
        have e2 : k + 1 + r.idxOf x = k + (r.idxOf x + 1) := by omega
        rw [e2]
        rfl
      · rw [if_neg h, if_neg (fun z => (List.mem_cons.mp z).elim (fun w => e w.symm) h)]
theorem kvO_put {l : List Int} {x : Int} (h : x ∉ l) : putK (kvO 0 l) (Sum.inl x : Key) (.int ((l.length : Nat))) = kvO 0 (l ++ [x]) := by
  rw [putK_new _ (by rw [kvO_val, if_neg h]), kvO_snoc, Nat.zero_add]
theorem take_new {S : List Int} (hnd : S.Nodup) {i : Nat} {z : Int} (hz : S[i]? = some z) : z ∉ S.take i := fun hm => by
  obtain ⟨j, hj, e⟩ := List.mem_take_iff_getElem.mp hm
  have hi2 := (List.getElem?_eq_some_iff.mp hz)
  have := (List.getElem_inj hnd).mp (e.trans hi2.2.symm)
  omega
theorem DsAt.no {H H' : Hp} {h : Addr} {vs : List V} {ds : List Deed} (n : H h = none) (s : Same H H') (d : DsAt H vs ds) : DsAt (No h H') vs ds := by
  refine d.same fun b o e => ?_
  rw [no_at (ne_of_none e n)]
  exact s b o e
theorem DeedAt.no {H H' : Hp} {h : Addr} {v : V} {d : Deed} (n : H h = none) (s : Same H H') (x : DeedAt H v d) : DeedAt (No h H') v d := by
  refine x.same fun b o e => ?_
  rw [no_at (ne_of_none e n)]
  exact s b o e
theorem c_renumbered {f : Addr} (T : Txt K w mg C D) (df : Df K mg "renumbered" s_renumbered f)   : CalF P w K mg base 1 f "renumbered" (spRenum) := by
  refine calF_of df sc_renumbered (fun vs H Q E h => ?_) (fun _ _ _ _ _ _ us hl => match us, hl with | [_, _], _ => rfl) (fun cdv A outer s H vs Q E hr h => ?_)
  · obtain ⟨a, o, xs, ds, order, rfl, _⟩ := h
    rfl
  · obtain ⟨a, o, xs, ds, order, rfl, ha, hd, ho, hnd, hir, hl, hwl, q⟩ := h
    refine ⟨_, (pss_cons (ps_set (i := 2) sc_renumbered.nd rfl (Or.inr rfl) (pe_dc rfl sc_renumbered.nd (pi_enum (by rfl) T.b_enumerate (pa_cons (pv 1) pa_nil)) (blkOk_by (own := [("at", 8), ("deed", 4)]) (N := N_renumbered) (sc := defScope s_renumbered) (by decide +kernel)) (fun _ _ _ _ _ => (pg_tupK (n := 2) K rfl (by rfl) (pgs_cons (pg_name (i := 8) sc_renumbered.nd rfl (Or.inl rfl)) (pgs_cons (pg_name (i := 4) sc_renumbered.nd rfl (Or.inl rfl)) pgs_nil)))) (fun _ _ _ _ _ => pts_nil) (fun _ _ _ _ _ => (pv 4)) (fun _ _ _ _ _ => (pv 8)))) (pss_cons (ps_set (i := 3) sc_renumbered.nd rfl (Or.inl rfl) (pe_lst pa_nil)) (pss_cons (ps_for PassesOwn.never rfl (pi_list (pv 1)) (pg_name (i := 4) sc_renumbered.nd rfl (Or.inl rfl)) (pss_cons (ps_asg (pe_ix ix_list (pv 0) (pv 4) (fun _ _ => rfl)) (pg_tup (by rfl) (pgs_cons (pg_name (i := 5) sc_renumbered.nd rfl (Or.inl rfl)) (pgs_cons (pg_name (i := 6) sc_renumbered.nd rfl (Or.inl rfl)) (pgs_cons (pg_name (i := 7) sc_renumbered.nd rfl (Or.inl rfl)) pgs_nil))))) (pss_one (ps_expr (pe_bm PySem.F.plainAttrs_list PySem.F.slot_list_append PySem.F.type_list_append mt_append (pv 3) (pa_cons (pe_tup (pa_cons (pv 5) (pa_cons (pv 6) (pa_cons (pe_callTy call_tuple_of (by rfl) T.b_tuple bt_tuple (pa_cons (pe_callB cr_sortedI (by rfl) T.b_sorted bt_sorted (pa_cons (pe_lc rfl sc_renumbered.nd (pi_tup (pv 7)) (blkOk_by (own := [("other", 9)]) (N := N_renumbered) (sc := defScope s_renumbered) (by decide +kernel)) (fun _ _ _ _ _ => (pg_name (i := 9) sc_renumbered.nd rfl (Or.inl rfl))) (fun _ _ _ _ _ => (pts_one (pt_cmp (pc_din (hu_of hr) (pv 9) (pv 2)) rfl))) (fun _ _ _ _ _ => (pe_dget (hu_of hr) (pv 2) (pv 9) (fun _ _ => rfl)))) pa_nil)) pa_nil)) pa_nil)))) pa_nil)))))) (pss_one (ps_ret (pe_callTy call_tuple_of (by rfl) T.b_tuple bt_tuple (pa_cons (pv 3) pa_nil))))))), ?_⟩
    have hol : order.length ≤ ds.length := inR_le hnd hir
    refine ⟨_, rfl, o, iV order, rfl, SqL.of ho, fun nm hnm => dc_it (walk_enum (xs := iV order)) (fun i H' => i ≤ order.length ∧ Same H H' ∧ H' nm = some (.dK (kvO 0 (order.take i))))
      ⟨Nat.zero_le _, same_new hnm, by rw [upd_same]; rfl⟩ (fun i H' _ p => SqL.of (p.2.1 _ _ ho)) ?_ ?_⟩
    · rintro i x H1 H2 hi ⟨hle, s1, h1⟩ ⟨T1, y, v, rfl, hT, rfl, e1, e2⟩
      cases e1
      obtain ⟨z, hz, rfl⟩ := iV_get e2
      have hnT : nm ≠ T1 := ne_of_none h1 hT
      refine ⟨T1, _, rfl, SqT.of upd_same, rfl, _, _, rfl, _, _, rfl, rfl, rfl, yes_ite ?_⟩
      refine ⟨_, rfl, _, rfl, kvO 0 (order.take i), Sum.inl z, rfl, by rw [upd_ne hnT]; exact h1, sz_lt ?_, ?_, same_upd (same_snew s1 hT) hnm, ?_⟩
      · rw [kvO_len, List.length_take]
        omega
      · exact (List.getElem?_eq_some_iff.mp hz).1
      · have e3 : (order.take i).length = i := by rw [List.length_take]; omega
        have e4 := kvO_put (take_new hnd hz)
        rw [e3] at e4
        rw [upd_same, e4, List.take_add_one, hz]
        rfl
    · rintro H1 ⟨_, s1, h1⟩
      have h1 : H1 nm = some (.dK (kvO 0 order)) := by
        rw [h1, iV_len, List.take_length]
      refine ⟨Nat.zero_le _, fun fl hfl => ?_⟩
      have hfl0 : H fl = none := Same.free s1 hfl
      have hnf : nm ≠ fl := ne_of_none h1 hfl
      refine ⟨_, rfl, o, rfl, ⟨_, SqL.of (same_snew s1 hfl _ _ ho)⟩, for_list (K := K) (a := o) (xs := iV order)
        (fun i σ H' => i ≤ order.length ∧ Same H H' ∧ H' nm = some (.dK (kvO 0 order)) ∧ ∃ (ys : List V) (v4 v5 v6 v7 v8 v9 : Option V), σ = [some (.ref a), some (.ref o), some (.ref nm), some (.ref fl), v4, v5, v6, v7, v8, v9] ∧ H' fl = some (.lst ys) ∧ DsAt (No fl H') ys ((renum ds order).take i))
        ⟨Nat.zero_le _, same_snew s1 hfl, by rw [upd_ne hnf]; exact h1, [], _, _, _, _, _, _, rfl, upd_same, DsAt.nil⟩ (fun i σ H' _ p => SqL.of (p.2.1 _ _ ho)) ?_ ?_⟩
      · rintro i x σ H2 hi ⟨hle, s2, n2, ys, v4, v5, v6, v7, v8, v9, rfl, f2, d2⟩
        obtain ⟨z, hz, rfl⟩ := iV_get hi
        have hzm := List.mem_of_getElem? hz
        have hzr := hir z hzm
        have hzl : z.toNat < ds.length := by omega
        have ez : ((z.toNat : Nat) : Int) = z := by omega
        obtain ⟨v, d, e1, e2, p, q2, rfl, hp, hq⟩ := hd.get hzl
        have e1' : atI xs z = some (.ref p) := by
          have := atI_nat e1
          rw [ez] at this
          exact this
        refine ⟨_, rfl, _, rfl, a, xs, z, .ref p, rfl, rfl, SqL.of (s2 _ _ ha), e1', p, _, rfl, SqT.of (s2 _ _ hp), rfl, _, _, rfl, _, _, rfl, _, _, rfl, rfl, ?_⟩
        refine ⟨_, rfl, .inl ⟨rfl, _, SqL.of f2⟩, _, rfl, _, rfl, _, rfl, q2, rfl, ⟨_, SqT.of (s2 _ _ hq)⟩, fun Dl hDl => lc_tup (K := K) (a := q2) (xs := iV d.2.2)
          (fun j H' => j ≤ d.2.2.length ∧ Same H2 H' ∧ H' Dl = some (.lst (iV (((d.2.2.take j).filter fun x => decide (x ∈ order)).map (posOf order)))))
          ⟨Nat.zero_le _, same_new hDl, by rw [upd_same]; rfl⟩ (fun j H' _ p => SqT.of (p.2.1 _ _ (s2 _ _ hq))) ?_ ?_⟩
        · rintro j y H3 hj ⟨hjl, s3, l3⟩
          obtain ⟨u, hu, rfl⟩ := iV_get hj
          refine ⟨rfl, ?_⟩
          refine ⟨_, rfl, _, rfl, nm, _, rfl, DGet.k (k := Sum.inl u) (s3 _ _ n2), _, rfl, ?_⟩
          rw [kvO_val]
          have tk : d.2.2.take (j + 1) = d.2.2.take j ++ [u] := by
            rw [List.take_add_one, hu]
            rfl
          by_cases hm : u ∈ order
          · rw [if_pos hm]
            refine iteT ?_
            have hg := DGet.k (k := Sum.inl u) (s3 _ _ n2)
            rw [kvO_val, if_pos hm] at hg
            refine ⟨_, rfl, _, rfl, nm, _, rfl, hg, _, l3, sz_lt ?_, ?_, same_upd s3 hDl, ?_⟩
            · have w1 := hwl d.2.2 (List.mem_map_of_mem (f := fun d : Deed => d.2.2) (List.mem_of_getElem? e2))
              rw [iV_len, List.length_map]
              have := List.length_filter_le (fun x => decide (x ∈ order)) (d.2.2.take j)
              rw [List.length_take] at this
              omega
            · exact (List.getElem?_eq_some_iff.mp hu).1
            · rw [upd_same, tk, List.filter_append, List.map_append, iV_app, List.filter_cons, if_pos (decide_eq_true hm), Nat.zero_add]
              rfl
          · rw [if_neg hm]
            refine iteF ⟨?_, s3, ?_⟩
            · exact (List.getElem?_eq_some_iff.mp hu).1
            · rw [l3, tk, List.filter_append, List.filter_cons, if_neg (by rw [decide_eq_false hm]; decide)]
              rw [List.filter_nil, List.append_nil]
        · rintro H3 ⟨_, s3, l3⟩
          rw [iV_len, List.take_length] at l3
          refine ⟨Dl, _, rfl, SqL.of l3, fun ns p3 hn1 hn2 hp3 => ?_⟩
          have en : ns = renumW order d.2.2 := isort_eq hn1 hn2
          refine ⟨p3, _, rfl, .inl ⟨SqL.of upd_same, fun p4 hp4 => ⟨sz3, fun p5 hp5 => ?_⟩⟩⟩
          have s5 : Same H2 (upd (upd (upd H3 p3 (.lst (iV ns))) p4 (.tup (iV ns))) p5 (.tup [fV d.1, .int d.2.1, .ref p4])) := same_snew (same_snew (same_snew s3 hp3) hp4) hp5
          have f5 := s5 _ _ f2
          have h45 : p4 ≠ p5 := ne_of_none upd_same hp5
          have h4f : p4 ≠ fl := (ne_of_none (same_snew (o := .lst (iV ns)) s3 hp3 _ _ f2) hp4).symm
          have h5f : p5 ≠ fl := (ne_of_none (same_snew (o := .tup (iV ns)) (same_snew (o := .lst (iV ns)) s3 hp3) hp4 _ _ f2) hp5).symm
          refine ⟨fl, ys, _, rfl, rfl, f5, sz_lt ?_, ?_⟩
          · have := d2.len
            rw [List.length_take] at this
            omega
          refine ⟨(List.getElem?_eq_some_iff.mp hz).1, same_upd (s2.trans s5) hfl0, by rw [upd_ne hnf]; exact s5 _ _ n2, _, _, _, _, _, _, _, rfl, upd_same, ?_⟩
          have tk : (renum ds order).take (i + 1) = (renum ds order).take i ++ [renum1 order d] := by
            rw [List.take_add_one]
            congr 1
            unfold renum
            rw [List.getElem?_map, hz, Option.map_some, getD_of e2]
            rfl
          rw [tk]
          have dd : DsAt (No fl (upd (upd (upd (upd H3 p3 (.lst (iV ns))) p4 (.tup (iV ns))) p5 (.tup [fV d.1, .int d.2.1, .ref p4])) fl (.lst (ys ++ [.ref p5])))) ys ((renum ds order).take i) :=
            d2.same ((same_no s5 fl).trans no_write)
          refine dd.snoc ⟨p5, p4, rfl, ?_, ?_⟩
          · rw [no_at h5f, upd_ne h5f, upd_same]
            rfl
          · rw [no_at h4f, upd_ne h4f, upd_ne h45, upd_same, en]
            rfl
      · rintro σ H2 ⟨_, s2, n2, ys, v4, v5, v6, v7, v8, v9, rfl, f2, d2⟩
        rw [iV_len] at d2
        have ef : (renum ds order).take order.length = renum ds order := by
          rw [List.take_of_length_le]
          unfold renum
          rw [List.length_map]
          exact Nat.le_refl _
        rw [ef] at d2
        refine ⟨_, rfl, fl, ys, rfl, .inl ⟨SqL.of f2, fun p hp => ?_⟩⟩
        exact q _ p ys (same_snew s2 hp) upd_same ((d2.same no_le).same (same_new hp))
theorem writtenN_snoc (ds : List Deed) (d : Deed) : writtenN (ds ++ [d]) = writtenN ds + (if d.1.isSome then 1 else 0) := by
  unfold writtenN
  rw [List.filter_append, List.length_append]
  cases h : d.1.isSome <;> simp [h]
/-- amid [first for first, need, waits in deeds if first is not None] -/
def LcF (H : Hp) (Dl : Addr) (ds : List Deed) (i : Nat) (H' : Hp) : Prop := i ≤ ds.length ∧ Same H H' ∧ H Dl = none ∧ ∃ ys, H' Dl = some (.lst ys) ∧ ys.length = writtenN (ds.take i)
theorem writtenN_le (ds : List Deed) : writtenN ds ≤ ds.length := List.length_filter_le ..
theorem lcF_s {H H' : Hp} {Dl : Addr} {ds : List Deed} {i : Nat} {d : Deed} (hl : ds.length ≤ 1000) (hd : ds[i]? = some d) (p : LcF H Dl ds i H') :
    (∃ acc, H' Dl = some (.lst acc) ∧ acc.length < sizeLine ∧ ∀ y, d.1.isSome = true → LcF H Dl ds (i + 1) (upd H' Dl (.lst (acc ++ [y])))) ∧ (d.1.isSome = false → LcF H Dl ds (i + 1) H') := by
  obtain ⟨h1, h2, h3, ys, h4, h5⟩ := p
  have hi : i < ds.length := (List.getElem?_eq_some_iff.mp hd).1
  have tk : ds.take (i + 1) = ds.take i ++ [d] := by
    rw [List.take_add_one, hd]
    rfl
  refine ⟨⟨ys, h4, sz_lt ?_, fun y hs => ⟨hi, same_upd h2 h3, h3, _, upd_same, ?_⟩⟩, fun hs => ⟨hi, h2, h3, ys, h4, ?_⟩⟩
  · have := writtenN_le (ds.take i)
    rw [List.length_take] at this
    omega
  · rw [tk, writtenN_snoc, hs, List.length_append, h5]
    rfl
  · rw [tk, writtenN_snoc, hs, h5]
    rfl
theorem fV_some {f : Option Int} : (!decide (fV f = .non)) = f.isSome := by
  cases f <;> rfl
theorem c_written_many {f : Addr} (T : Txt K w mg C D) (df : Df K mg "written_many" s_written_many f)   : CalF P w K mg base 1 f "written_many" (spWritten) := by
  refine calF_of df sc_written_many (fun vs H Q E h => ?_) (fun _ _ _ _ _ _ us hl => match us, hl with | [_], _ => rfl) (fun cdv A outer s H vs Q E hr h => ?_)
  · obtain ⟨a, xs, ds, rfl, _⟩ := h
    rfl
  · obtain ⟨a, xs, ds, rfl, ha, hd, hl, q⟩ := h
    refine ⟨_, (pss_one (ps_ret (pe_callB call_len_seq (by rfl) T.b_len bt_len (pa_cons (pe_lc rfl sc_written_many.nd (pi_seq (pv 0)) (blkOk_by (own := [("first", 1), ("need", 2), ("waits", 3)]) (N := N_written_many) (sc := defScope s_written_many) (by decide +kernel)) (fun _ _ _ _ _ => (pg_tupK (n := 3) K rfl (by rfl) (pgs_cons (pg_name (i := 1) sc_written_many.nd rfl (Or.inl rfl)) (pgs_cons (pg_name (i := 2) sc_written_many.nd rfl (Or.inl rfl)) (pgs_cons (pg_name (i := 3) sc_written_many.nd rfl (Or.inl rfl)) pgs_nil))))) (fun _ _ _ _ _ => (pts_one (pt_cmpR op_notN (pv 1) pe_non (nomark _)))) (fun _ _ _ _ _ => (pv 1))) pa_nil)))), ?_⟩
    have fin : ∀ {Dl : Addr} {H2 : Hp}, LcF H Dl ds xs.length H2 → ∃ ys, H2 Dl = some (.lst ys) ∧ Q (.int (ys.length : Nat)) H2 := fun {Dl H2} p => by
      obtain ⟨_, s2, _, ys, e1, e2⟩ := p
      rw [hd.len, List.take_length] at e2
      refine ⟨ys, e1, ?_⟩
      rw [e2]
      exact q H2 s2
    refine ⟨_, rfl, a, rfl, ?_⟩
    rcases ha with ha | ha
    · refine .inl ⟨⟨_, SqL.of ha⟩, fun Dl hDl => lc_list (K := K) (a := a) (xs := xs) (LcF H Dl ds) ⟨Nat.zero_le _, same_new hDl, hDl, [], upd_same, rfl⟩ (fun i H' _ p => SqL.of (p.2.1 _ _ ha)) ?_ ?_⟩
      · rintro i x H2 hi p
        obtain ⟨d, e1, t, q2, rfl, e2, e3⟩ := hd.at_ i x hi
        refine ⟨t, _, rfl, SqT.of (p.2.1 _ _ e2), rfl, _, _, rfl, _, _, rfl, _, _, rfl, rfl, rfl, ?_⟩
        refine ⟨_, rfl, rfl, _, rfl, ?_⟩
        rw [fV_some]
        cases hs : d.1.isSome with
        | true =>
          refine iteT ⟨_, rfl, ?_⟩
          obtain ⟨acc, a1, a2, a3⟩ := (lcF_s hl e1 p).1
          exact ⟨acc, a1, a2, a3 _ hs⟩
        | false => exact iteF ((lcF_s hl e1 p).2 hs)
      · rintro H2 p
        obtain ⟨ys, e1, e2⟩ := fin p
        exact ⟨Dl, ys, rfl, .inl (SqL.of e1), e2⟩
    · refine .inr ⟨⟨_, SqT.of ha⟩, fun Dl hDl => lc_tup (K := K) (a := a) (xs := xs) (LcF H Dl ds) ⟨Nat.zero_le _, same_new hDl, hDl, [], upd_same, rfl⟩ (fun i H' _ p => SqT.of (p.2.1 _ _ ha)) ?_ ?_⟩
      · rintro i x H2 hi p
        obtain ⟨d, e1, t, q2, rfl, e2, e3⟩ := hd.at_ i x hi
        refine ⟨t, _, rfl, SqT.of (p.2.1 _ _ e2), rfl, _, _, rfl, _, _, rfl, _, _, rfl, rfl, rfl, ?_⟩
        refine ⟨_, rfl, rfl, _, rfl, ?_⟩
        rw [fV_some]
        cases hs : d.1.isSome with
        | true =>
          refine iteT ⟨_, rfl, ?_⟩
          obtain ⟨acc, a1, a2, a3⟩ := (lcF_s hl e1 p).1
          exact ⟨acc, a1, a2, a3 _ hs⟩
        | false => exact iteF ((lcF_s hl e1 p).2 hs)
      · rintro H2 p
        obtain ⟨ys, e1, e2⟩ := fin p
        exact ⟨Dl, ys, rfl, .inl (SqL.of e1), e2⟩

end
end Rc
set_option maxHeartbeats 4000000
namespace Rc
open PySem PySem.Spec PyProof.Rows L2
section
variable {P : Program} {w : World} {K : PySem.W.Frag} {mg : Str → Option Value} {base : Heap} {C D : Addr}
/-! behind a wish: behind_row, behind_open, behind_wait, behind_of, behind -/
theorem rg_eq (n : Nat) (m : Int) (h : m = (n : Int)) : rgV 0 m = iV (rangeI n) := by
  subst h
  have e : ((n : Int) - 0).toNat = n := by omega
  unfold rgV iV rangeI
  rw [e, List.map_map]
  refine List.map_congr_left fun i _ => ?_
  show V.int (0 + (i : Nat)) = V.int ((i : Nat) : Int)
  rw [Int.zero_add]
theorem iV_take (l : List Int) (n : Nat) : (iV l).take n = iV (l.take n) := List.map_take.symm
theorem iV_drop (l : List Int) (n : Nat) : (iV l).drop n = iV (l.drop n) := List.map_drop.symm
theorem at_ne {H : Hp} {a b : Addr} {o p : HO} (h1 : H a = some o) (h2 : H b = some p) (h : o ≠ p) : a ≠ b := fun z => by
  rw [z, h2] at h1
  exact h (Option.some.inj h1).symm
theorem ixN_nat {n d : Nat} (h : d < n) : ixN n (d : Int) = some d := by
  unfold ixN
  rw [if_pos (by omega), if_pos (by omega)]
  simp
theorem agedL_nodup (ds : List Deed) : (agedL ds).Nodup := by
  have f : ∀ {l : List Nat}, l.Nodup → (natI l).Nodup := fun {l} h => by
    unfold natI
    refine List.pairwise_map.mpr (List.Pairwise.imp (fun {a b} q => ?_) h)
    intro z
    exact q (by omega)
  refine List.nodup_append.mpr ⟨f (List.Pairwise.filter _ List.nodup_range), f (List.Pairwise.filter _ List.nodup_range), fun a ha b hb e => ?_⟩
  obtain ⟨i, hi, rfl⟩ := List.mem_map.mp ha
  obtain ⟨j, hj, rfl⟩ := List.mem_map.mp hb
  have hij : i = j := by omega
  subst hij
  have h1 := (List.mem_filter.mp hi).2
  have h2 := (List.mem_filter.mp hj).2
  rw [h1] at h2
  cases h2
theorem agedL_inR (ds : List Deed) : InR ds.length (agedL ds) := fun x hx => by
  rcases List.mem_append.mp hx with h | h
  · obtain ⟨i, hi, rfl⟩ := List.mem_map.mp h
    have := List.mem_range.mp (List.mem_filter.mp hi).1
    omega
  · obtain ⟨i, hi, rfl⟩ := List.mem_map.mp h
    have := List.mem_range.mp (List.mem_filter.mp hi).1
    omega
theorem waits_short {ds : List Deed} {n : Nat} (a : ∀ ws ∈ waitsL ds, Asc ws) (r : ∀ ws ∈ waitsL ds, InR n ws) (h : n ≤ 1000) : ∀ ws ∈ waitsL ds, ws.length ≤ 1000 := fun ws hw =>
  Nat.le_trans (inR_le (a ws hw).nodup (r ws hw)) h
theorem waits_set {ds : List Deed} {d : Nat} {e d' : Deed} (he : ds[d]? = some e) (hw : d'.2.2 = e.2.2) : ∀ ws ∈ waitsL (ds.set d d'), ws ∈ waitsL ds := fun ws h => by
  obtain ⟨x, hx, rfl⟩ := List.mem_map.mp h
  rcases List.mem_or_eq_of_mem_set hx with h1 | h1
  · exact List.mem_map_of_mem (f := fun d : Deed => d.2.2) h1
  · rw [h1, hw]
    exact List.mem_map_of_mem (f := fun d : Deed => d.2.2) (List.mem_of_getElem? he)
theorem pre_started {ds : List Deed} {k i : Nat} (h : Pre ds k) (hi : i < ds.length) : started ds i = true ↔ i < k := by
  rw [started_iff hi]
  exact h.2 i ds[i] (List.getElem?_eq_getElem hi)
theorem started_set {ds : List Deed} {d i : Nat} {d' : Deed} (hi : i < ds.length) : started (ds.set d d') i = if d = i then d'.1.isSome else started ds i := by
  have hi2 : i < (ds.set d d').length := by rw [List.length_set]; exact hi
  rw [started_iff hi2, List.getElem_set]
  by_cases e : d = i
  · rw [if_pos e, if_pos e]
  · rw [if_neg e, if_neg e, started_iff hi]
theorem pre_of {ds : List Deed} {k : Nat} (h : k ≤ ds.length) (st : ∀ i, i < ds.length → (started ds i = true ↔ i < k)) : Pre ds k := ⟨h, fun i d hi => by
  obtain ⟨h1, h2⟩ := List.getElem?_eq_some_iff.mp hi
  rw [← st i h1, started_iff h1, h2]⟩
theorem pre_set {ds : List Deed} {k d : Nat} {e d' : Deed} (h : Pre ds k) (he : ds[d]? = some e) (hs : d'.1.isSome = e.1.isSome) : Pre (ds.set d d') k := by
  refine pre_of (by rw [List.length_set]; exact h.1) fun i hi => ?_
  rw [List.length_set] at hi
  rw [started_set hi]
  by_cases z : d = i
  · rw [if_pos z, hs]
    subst z
    exact h.2 d e he
  · rw [if_neg z]
    exact pre_started h hi
theorem c_behind_row {f : Addr} (T : Txt K w mg C D) (df : Df K mg "behind_row" s_behind_row f) (c_raw_standing : Cal P w K mg base 8 "raw_standing" (spRaw C)) (c_written_many : Cal P w K mg base 1 "written_many" (spWritten)) (c_renumbered : Cal P w K mg base 1 "renumbered" (spRenum))  : CalF P w K mg base 9 f "behind_row" (spBRow C) := by
  refine calF_of df sc_behind_row (fun vs H Q E h => ?_) (fun _ _ _ _ _ _ us hl => match us, hl with | [_, _, _, _], _ => rfl) (fun cdv A outer s H vs Q E hr h => ?_)
  · obtain ⟨s, cells, head, ds, d, c, nd, rfl, _⟩ := h
    rfl
  · obtain ⟨s, cells, head, ds, d, c, nd, rfl, ⟨a, xs, ⟨dx, hs⟩, ha, hd⟩, W, hok, q⟩ := h
    refine ⟨_, (pss_cons (ps_asg (pe_ix ix_tup (pe_fld (pv 0) rfl) (pv 1) (fun _ _ => rfl)) (pg_tup (by rfl) (pgs_cons (pg_name (i := 4) sc_behind_row.nd rfl (Or.inl rfl)) (pgs_cons (pg_name (i := 5) sc_behind_row.nd rfl (Or.inl rfl)) (pgs_cons (pg_name (i := 6) sc_behind_row.nd rfl (Or.inl rfl)) pgs_nil))))) (pss_cons (ps_set (i := 7) sc_behind_row.nd rfl (Or.inl rfl) (pe_callTy call_list_of (by rfl) T.b_list bt_list (pa_cons (pe_fld (pv 0) rfl) pa_nil))) (pss_cons (ps_set (i := 8) sc_behind_row.nd rfl (Or.inl rfl) (pe_listRg rfl (by rfl) T.b_list (prg_1 (by rfl) T.b_range (pe_callB call_len_seq (by rfl) T.b_len bt_len (pa_cons (pv 7) pa_nil))))) (pss_cons (ps_if (pt_cmpR op_isN (pv 4) pe_non (nomark _)) (pss_cons (ps_expr (pe_bm PySem.F.plainAttrs_list PySem.F.slot_list_remove PySem.F.type_list_remove mt_remove (pv 8) (pa_cons (pv 1) pa_nil))) (pss_cons (ps_expr (pe_bm PySem.F.plainAttrs_list PySem.F.slot_list_insert PySem.F.type_list_insert mt_insert (pv 8) (pa_cons (pe_u c_written_many hr (by decide) (by rfl) (pa_cons (pv 7) pa_nil)) (pa_cons (pv 1) pa_nil)))) (pss_one (ps_set (i := 4) sc_behind_row.nd rfl (Or.inl rfl) (pe_fld (pv 0) rfl))))) pss_nil) (pss_cons (ps_asg (pe_tup (pa_cons (pv 4) (pa_cons (pv 3) (pa_cons (pv 6) pa_nil)))) (pg_sub (pv 7) (pv 1) set_list)) (pss_one (ps_ret (pe_u c_raw_standing hr (by decide) (by rfl) (pa_cons (pe_fld (pv 0) rfl) (pa_cons (pe_op op_add (pe_fld (pv 0) rfl) (pv 2)) (pa_cons (pe_u c_renumbered hr (by decide) (by rfl) (pa_cons (pv 7) (pa_cons (pv 8) pa_nil))) pa_nil))))))))))), ?_⟩
    obtain ⟨v, e, e1, e2, p, q2, rfl, hp, hq⟩ := hd.get hok.1
    obtain ⟨k, hk⟩ := W.pre
    have hn := W.len
    have hln := hd.len
    have hdn := hok.1
    have hds : (ds.set d (some (e.1.getD head), nd, e.2.2)) = stepD head ds (.row d c nd) := by
      show _ = ds.set d (some ((ds.getD d noDeed).1.getD head), nd, (ds.getD d noDeed).2.2)
      rw [getD_of e2]
    have hws : ∀ ws ∈ waitsL (ds.set d (some (e.1.getD head), nd, e.2.2)), ws ∈ waitsL ds := waits_set e2 rfl
    have hlen : (ds.set d (some (e.1.getD head), nd, e.2.2)).length = ds.length := List.length_set ..
    have hwl : ∀ ws ∈ waitsL (ds.set d (some (e.1.getD head), nd, e.2.2)), ws.length ≤ 1000 := fun ws hw => waits_short W.good.asc W.good.inr (by omega) ws (hws ws hw)
    refine ⟨_, rfl, s, C, dx, _, .ref a, rfl, hs, T.cl, T.nD, rfl, _, rfl, a, xs, (d : Int), .ref p, rfl, rfl, SqT.of ha, atI_nat e1, p, _, rfl, SqT.of hp, rfl, _, _, rfl, _, _, rfl, _, _, rfl, rfl, ?_⟩
    refine ⟨_, rfl, s, C, dx, _, .ref a, rfl, hs, T.cl, T.nD, rfl, a, xs, rfl, .inr (SqT.of ha), fun dl hdl => ?_⟩
    refine ⟨_, rfl, dl, xs, rfl, .inl (SqL.of upd_same), _, rfl, RgOk.of_le (by omega) (by omega) (by omega) (by omega), fun ol hol => ?_⟩
    have s1 : Same H (upd H dl (.lst xs)) := same_new hdl
    have hol0 : H ol = none := Same.free s1 hol
    have hdo : dl ≠ ol := ne_of_none upd_same hol
    rw [rg_eq ds.length _ (by rw [hln])]
    have s2 : Same H (upd (upd H dl (.lst xs)) ol (.lst (iV (rangeI ds.length)))) := same_snew s1 hol
    have w2 : (upd (upd H dl (.lst xs)) ol (.lst (iV (rangeI ds.length)))) dl = some (.lst xs) := by rw [upd_ne hdo, upd_same]
    refine ⟨_, rfl, rfl, _, rfl, ?_⟩
    cases hf : e.1 with
    | some f =>
      rw [hf] at hds hws hlen hwl hp
      simp only [Option.getD_some] at hds hws hlen hwl
      refine iteF ?_
      have hpre : Pre (ds.set d (some f, nd, e.2.2)) k := pre_set hk e2 (by rw [hf])
      refine ⟨_, rfl, _, rfl, _, rfl, sz3, fun tp htp => ?_⟩
      refine ⟨_, rfl, _, rfl, dl, xs, (d : Int), d, rfl, rfl, by rw [upd_ne (ne_of_none w2 htp)]; exact w2, ixN_nat (by omega), ?_⟩
      have htpd : tp ≠ dl := (ne_of_none w2 htp).symm
      have s4 : Same H (upd (upd (upd (upd H dl (.lst xs)) ol (.lst (iV (rangeI ds.length)))) tp (.tup [.int f, .int nd, .ref q2])) dl (.lst (xs.set d (.ref tp)))) := same_upd (same_snew s2 htp) hdl
      refine ⟨_, rfl, s, C, dx, _, .int cells, rfl, s4 _ _ hs, T.cl, T.nC, rfl, _, rfl, s, C, dx, _, .int head, rfl, s4 _ _ hs, T.cl, T.nH, rfl, _, rfl, head, c, rfl, rfl, ?_⟩
      have hag : agedL (ds.set d (some f, nd, e.2.2)) = rangeI ds.length := by rw [aged_pre hpre, List.length_set]
      refine ⟨_, rfl, _, rfl, dl, ol, xs.set d (.ref tp), ds.set d (some f, nd, e.2.2), rangeI ds.length, rfl, upd_same, ((hd.same s4).set d ⟨tp, q2, rfl, ?_, s4 _ _ hq⟩), ?_, (asc_range _).nodup, ?_, by rw [hlen]; omega, hwl, fun H6 pr ys s6 h6 d6 => ?_⟩
      · rw [upd_ne htpd, upd_same]
        rfl
      · rw [upd_ne hdo.symm, upd_ne (ne_of_none upd_same htp), upd_same]
      · intro x hx
        rw [hlen]
        exact mem_rangeI.mp hx
      have ly : ys.length ≤ 1000 := by
        rw [d6.len]
        unfold renum
        rw [List.length_map, rangeI_length]
        omega
      refine ⟨cells, head + c, pr, ys, rfl, .inr h6, ly, fun H7 s' b s7 st7 hb7 => ?_⟩
      refine q H7 s' (s4.trans (s6.trans s7)) ⟨b, ys, st7, hb7, ?_⟩
      unfold after
      rw [← hds]
      show DsAt H7 ys (renum (ds.set d (some f, nd, e.2.2)) (agedL (ds.set d (some f, nd, e.2.2))))
      rw [hag]
      exact d6.same s7
    | none =>
      rw [hf] at hds hws hlen hwl hp
      simp only [Option.getD_none] at hds hws hlen hwl
      refine iteT ?_
      have hkd : k ≤ d := by
        have := hk.2 d e e2
        rw [hf] at this
        refine Nat.le_of_not_lt fun z => ?_
        have := this.mpr z
        cases this
      have hst : ∀ i, i < (ds.set d (some head, nd, e.2.2)).length → (started (ds.set d (some head, nd, e.2.2)) i = true ↔ i < k ∨ i = d) := fun i hi => by
        rw [List.length_set] at hi
        rw [started_set hi]
        by_cases z : d = i
        · rw [if_pos z]
          subst z
          exact ⟨fun _ => .inr rfl, fun _ => rfl⟩
        · rw [if_neg z, pre_started hk hi]
          exact ⟨.inl, fun y => y.elim (fun h => h) fun h => absurd h.symm z⟩
      have hag := aged_one (ds := ds.set d (some head, nd, e.2.2)) (k := k) (d := d) hkd (by rw [List.length_set]; exact hdn) hst
      rw [List.length_set] at hag
      refine ⟨_, rfl, .inl ⟨rfl, _, SqL.of upd_same⟩, _, rfl, ol, rangeI ds.length, (d : Int), d, rfl, rfl, upd_same, rangeI_get hdn, fun m hm z => ?_, ?_⟩
      · rw [rangeI_get (by omega)] at z
        injection z with z
        omega
      have s3 : Same H (upd (upd (upd H dl (.lst xs)) ol (.lst (iV (rangeI ds.length)))) ol (.lst (iV ((rangeI ds.length).eraseIdx d)))) := same_upd s2 hol0
      have w3 : (upd (upd (upd H dl (.lst xs)) ol (.lst (iV (rangeI ds.length)))) ol (.lst (iV ((rangeI ds.length).eraseIdx d)))) dl = some (.lst xs) := by rw [upd_ne hdo]; exact w2
      refine ⟨_, rfl, .inl ⟨rfl, _, SqL.of upd_same⟩, _, rfl, dl, xs, ds, rfl, .inl w3, hd.same s3, by omega, fun H4 s4 => ?_⟩
      have l4 := s4 _ _ (show (upd (upd (upd H dl (.lst xs)) ol (.lst (iV (rangeI ds.length)))) ol (.lst (iV ((rangeI ds.length).eraseIdx d)))) ol = _ from upd_same)
      have hlr : (rangeI ds.length).length = ds.length := rangeI_length _
      have hle : ((rangeI ds.length).eraseIdx d).length ≤ ds.length := by
        have := List.length_eraseIdx_le (rangeI ds.length) d
        omega
      refine ⟨_, rfl, ol, _, (writtenN ds : Nat), .int (d : Int), rfl, rfl, l4, sz_lt (by rw [iV_len]; omega), by omega, ?_, ?_⟩
      · rw [written_pre hk]
        omega
      have w4 := s4 _ _ w3
      have eo : (iV ((rangeI ds.length).eraseIdx d)).take ((writtenN ds : Nat) : Int).toNat ++ [.int (d : Int)] ++ (iV ((rangeI ds.length).eraseIdx d)).drop ((writtenN ds : Nat) : Int).toNat = iV (agedL (ds.set d (some head, nd, e.2.2))) := by
        rw [hag, written_pre hk, Int.toNat_natCast, iV_app, iV_app, iV_take, iV_drop]
        rfl
      rw [eo]
      have s5 : Same H (upd H4 ol (.lst (iV (agedL (ds.set d (some head, nd, e.2.2)))))) := same_upd (s3.trans s4) hol0
      refine ⟨_, rfl, s, C, dx, _, .int head, rfl, s5 _ _ hs, T.cl, T.nH, rfl, ?_⟩
      have w5 : (upd H4 ol (.lst (iV (agedL (ds.set d (some head, nd, e.2.2)))))) dl = some (.lst xs) := by rw [upd_ne hdo]; exact w4
      refine ⟨_, rfl, _, rfl, _, rfl, sz3, fun tp htp => ?_⟩
      refine ⟨_, rfl, _, rfl, dl, xs, (d : Int), d, rfl, rfl, by rw [upd_ne (ne_of_none w5 htp)]; exact w5, ixN_nat (by omega), ?_⟩
      have htpd : tp ≠ dl := (ne_of_none w5 htp).symm
      have s6 : Same H (upd (upd (upd H4 ol (.lst (iV (agedL (ds.set d (some head, nd, e.2.2)))))) tp (.tup [.int head, .int nd, .ref q2])) dl (.lst (xs.set d (.ref tp)))) := same_upd (same_snew s5 htp) hdl
      refine ⟨_, rfl, s, C, dx, _, .int cells, rfl, s6 _ _ hs, T.cl, T.nC, rfl, _, rfl, s, C, dx, _, .int head, rfl, s6 _ _ hs, T.cl, T.nH, rfl, _, rfl, head, c, rfl, rfl, ?_⟩
      refine ⟨_, rfl, _, rfl, dl, ol, xs.set d (.ref tp), ds.set d (some head, nd, e.2.2), agedL (ds.set d (some head, nd, e.2.2)), rfl, upd_same, ((hd.same s6).set d ⟨tp, q2, rfl, ?_, s6 _ _ hq⟩), ?_, agedL_nodup _, agedL_inR _, by rw [hlen]; omega, hwl, fun H8 pr ys s8 h8 d8 => ?_⟩
      · rw [upd_ne htpd, upd_same]
        rfl
      · rw [upd_ne hdo.symm, upd_ne (ne_of_none upd_same htp), upd_same]
      have ly : ys.length ≤ 1000 := by
        rw [d8.len]
        unfold renum
        rw [List.length_map]
        have := inR_le (agedL_nodup (ds.set d (some head, nd, e.2.2))) (agedL_inR _)
        rw [hlen] at this
        omega
      refine ⟨cells, head + c, pr, ys, rfl, .inr h8, ly, fun H7 s' b s7 st7 hb7 => ?_⟩
      refine q H7 s' (s6.trans (s8.trans s7)) ⟨b, ys, st7, hb7, ?_⟩
      unfold after
      rw [← hds]
      exact d8.same s7
theorem waits_app {ds : List Deed} {d' : Deed} : waitsL (ds ++ [d']) = waitsL ds ++ [d'.2.2] := List.map_append ..
theorem started_app {ds : List Deed} {i : Nat} {d' : Deed} (hi : i < ds.length + 1) : started (ds ++ [d']) i = if i = ds.length then d'.1.isSome else started ds i := by
  have hl : (ds ++ [d']).length = ds.length + 1 := by rw [List.length_append]; rfl
  rw [started_iff (by rw [hl]; exact hi)]
  by_cases e : i = ds.length
  · subst e
    rw [if_pos rfl, List.getElem_append_right (Nat.le_refl _)]
    simp
  · rw [if_neg e, started_iff (ds := ds) (by omega), List.getElem_append_left (by omega)]
theorem erase_last (n : Nat) : (rangeI (n + 1)).eraseIdx n = rangeI n := by
  unfold rangeI
  rw [List.range_succ, List.map_append, List.eraseIdx_append_of_length_le (by rw [List.length_map, List.length_range]; exact Nat.le_refl _), List.length_map, List.length_range, Nat.sub_self]
  exact List.append_nil _
theorem range_last (n : Nat) : rangeI (n + 1) = rangeI n ++ [(n : Int)] := by
  unfold rangeI
  rw [List.range_succ, List.map_append]
  rfl
theorem c_behind_open {f : Addr} (T : Txt K w mg C D) (df : Df K mg "behind_open" s_behind_open f) (c_raw_standing : Cal P w K mg base 8 "raw_standing" (spRaw C)) (c_written_many : Cal P w K mg base 1 "written_many" (spWritten)) (c_renumbered : Cal P w K mg base 1 "renumbered" (spRenum))  : CalF P w K mg base 9 f "behind_open" (spBOpen C) := by
  refine calF_of df sc_behind_open (fun vs H Q E h => ?_) (fun _ _ _ _ _ _ us hl => match us, hl with | [_, _, _, _], _ => rfl) (fun cdv A outer s H vs Q E hr h => ?_)
  · obtain ⟨s, cells, head, ds, c, nd, qa, ws, rfl, _⟩ := h
    rfl
  · obtain ⟨s, cells, head, ds, c, nd, qa, ws, rfl, ⟨a, xs, ⟨dx, hs⟩, ha, hd⟩, W, hok, hqa, q⟩ := h
    refine ⟨_, (pss_cons (ps_set (i := 4) sc_behind_open.nd rfl (Or.inl rfl) (pe_op op_cat (pe_callTy call_list_of (by rfl) T.b_list bt_list (pa_cons (pe_fld (pv 0) rfl) pa_nil)) (pe_lst (pa_cons (pe_tup (pa_cons (pe_ifExp (pt_cmpR op_gt (pv 1) pe_int (nomark _)) (pe_fld (pv 0) rfl) pe_non) (pa_cons (pv 2) (pa_cons (pv 3) pa_nil)))) pa_nil)))) (pss_cons (ps_set (i := 5) sc_behind_open.nd rfl (Or.inl rfl) (pe_listRg rfl (by rfl) T.b_list (prg_1 (by rfl) T.b_range (pe_callB call_len_seq (by rfl) T.b_len bt_len (pa_cons (pe_fld (pv 0) rfl) pa_nil))))) (pss_cons (ps_expr (pe_bm PySem.F.plainAttrs_list PySem.F.slot_list_insert PySem.F.type_list_insert mt_insert (pv 5) (pa_cons (pe_ifExp (pt_cmpR op_gt (pv 1) pe_int (nomark _)) (pe_u c_written_many hr (by decide) (by rfl) (pa_cons (pe_fld (pv 0) rfl) pa_nil)) (pe_callB call_len_seq (by rfl) T.b_len bt_len (pa_cons (pv 5) pa_nil))) (pa_cons (pe_callB call_len_seq (by rfl) T.b_len bt_len (pa_cons (pv 5) pa_nil)) pa_nil)))) (pss_one (ps_ret (pe_u c_raw_standing hr (by decide) (by rfl) (pa_cons (pe_fld (pv 0) rfl) (pa_cons (pe_op op_add (pe_fld (pv 0) rfl) (pv 1)) (pa_cons (pe_u c_renumbered hr (by decide) (by rfl) (pa_cons (pv 4) (pa_cons (pv 5) pa_nil))) pa_nil))))))))), ?_⟩
    obtain ⟨k, hk⟩ := W.pre
    have hn := W.len
    have hln := hd.len
    have hkn := hk.1
    have hall : ∀ us ∈ waitsL ds ++ [ws], Asc us ∧ InR ds.length us := fun us h => by
      rcases List.mem_append.mp h with h | h
      · exact ⟨W.good.asc us h, W.good.inr us h⟩
      · rw [List.mem_singleton.mp h]
        exact hok.2.2.2.2.2
    by_cases hc : 0 < c
    · have hds : ds ++ [(some head, nd, ws)] = stepD head ds (.opn c nd ws) := by
        show _ = ds ++ [(if 0 < c then some head else none, nd, ws)]
        rw [if_pos hc]
      have hlen : (ds ++ [((some head : Option Int), nd, ws)]).length = ds.length + 1 := by rw [List.length_append]; rfl
      have hwl : ∀ us ∈ waitsL (ds ++ [((some head : Option Int), nd, ws)]), us.length ≤ 1000 := fun us hu => by
        rw [waits_app] at hu
        obtain ⟨h1, h2⟩ := hall us hu
        exact Nat.le_trans (inR_le h1.nodup h2) (by omega)
      have hst : ∀ i, i < (ds ++ [((some head : Option Int), nd, ws)]).length → (started (ds ++ [((some head : Option Int), nd, ws)]) i = true ↔ i < k ∨ i = ds.length) := fun i hi => by
        rw [hlen] at hi
        rw [started_app hi]
        by_cases z : i = ds.length
        · rw [if_pos z]
          exact ⟨fun _ => .inr z, fun _ => rfl⟩
        · rw [if_neg z, pre_started hk (by omega)]
          exact ⟨.inl, fun y => y.elim (fun h => h) fun h => absurd h z⟩
      have hag : agedL (ds ++ [((some head : Option Int), nd, ws)]) = (rangeI ds.length).take k ++ [(ds.length : Int)] ++ (rangeI ds.length).drop k := by
        have := aged_one (k := k) (d := ds.length) hk.1 (by rw [hlen]; omega) hst
        rw [hlen, erase_last] at this
        exact this
      refine ⟨_, rfl, s, C, dx, _, .ref a, rfl, hs, T.cl, T.nD, rfl, a, xs, rfl, .inr (SqT.of ha), fun l1 hl1 => ?_⟩
      have s1 : Same H (upd H l1 (.lst xs)) := same_new hl1
      refine ⟨_, rfl, c, 0, rfl, rfl, _, decide_eq_true hc ▸ rfl, iteT ?_⟩
      refine ⟨_, rfl, s, C, dx, _, .int head, rfl, s1 _ _ hs, T.cl, T.nH, rfl, _, rfl, _, rfl, sz3, fun tp htp => ?_⟩
      refine ⟨sz1, fun l2 hl2 => ?_⟩
      have s3 : Same (upd H l1 (.lst xs)) (upd (upd (upd H l1 (.lst xs)) tp (.tup [.int head, .int nd, .ref qa])) l2 (.lst [.ref tp])) := same_snew (same_new htp) hl2
      refine ⟨l1, l2, xs, [.ref tp], rfl, rfl, s3 _ _ upd_same, upd_same, Nat.le_of_lt (sz_lt (by rw [hln]; show ds.length + 1 < 100000; omega)), fun dl hdl => ?_⟩
      have s4 : Same H (upd (upd (upd (upd H l1 (.lst xs)) tp (.tup [.int head, .int nd, .ref qa])) l2 (.lst [.ref tp])) dl (.lst (xs ++ [.ref tp]))) := same_snew (s1.trans s3) hdl
      have ht4 : (upd (upd (upd (upd H l1 (.lst xs)) tp (.tup [.int head, .int nd, .ref qa])) l2 (.lst [.ref tp])) dl (.lst (xs ++ [.ref tp]))) tp = some (.tup [.int head, .int nd, .ref qa]) :=
        same_new hdl _ _ (same_new hl2 _ _ upd_same)
      refine ⟨_, rfl, s, C, dx, _, .ref a, rfl, s4 _ _ hs, T.cl, T.nD, rfl, a, xs, rfl, .inr (SqT.of (s4 _ _ ha)), _, rfl, RgOk.of_le (by omega) (by omega) (by omega) (by omega), fun ol hol => ?_⟩
      rw [rg_eq ds.length _ (by rw [hln])]
      have hol0 : H ol = none := Same.free s4 hol
      have hdo : dl ≠ ol := ne_of_none upd_same hol
      have s5 := same_snew (o := .lst (iV (rangeI ds.length))) s4 hol
      have s45 := same_new (o := .lst (iV (rangeI ds.length))) hol
      refine ⟨_, rfl, .inl ⟨rfl, _, SqL.of upd_same⟩, _, rfl, c, 0, rfl, rfl, _, decide_eq_true hc ▸ rfl, iteT ?_⟩
      refine ⟨_, rfl, s, C, dx, _, .ref a, rfl, s5 _ _ hs, T.cl, T.nD, rfl, a, xs, ds, rfl, .inr (s5 _ _ ha), hd.same s5, by omega, fun H6 s6 => ?_⟩
      rw [written_pre hk]
      have l6 := s6 _ _ (upd_same (H := (upd (upd (upd (upd H l1 (.lst xs)) tp (.tup [.int head, .int nd, .ref qa])) l2 (.lst [.ref tp])) dl (.lst (xs ++ [.ref tp])))) (a := ol) (o := .lst (iV (rangeI ds.length))))
      have w6 := s6 _ _ (s45 _ _ (upd_same (H := upd (upd (upd H l1 (.lst xs)) tp (.tup [.int head, .int nd, .ref qa])) l2 (.lst [.ref tp])) (a := dl) (o := .lst (xs ++ [.ref tp]))))
      have t6 := s6 _ _ (s45 _ _ ht4)
      have s06 := s5.trans s6
      refine ⟨_, rfl, ol, _, rfl, .inl (SqL.of l6), ol, _, (k : Nat), _, rfl, rfl, l6, sz_lt (by rw [iV_len, rangeI_length]; omega), by omega, by omega, ?_⟩
      have eo : (iV (rangeI ds.length)).take ((k : Nat) : Int).toNat ++ [.int (((iV (rangeI ds.length)).length : Nat) : Int)] ++ (iV (rangeI ds.length)).drop ((k : Nat) : Int).toNat = iV (agedL (ds ++ [((some head : Option Int), nd, ws)])) := by
        rw [hag, Int.toNat_natCast, iV_app, iV_app, iV_take, iV_drop, iV_len, rangeI_length]
        rfl
      rw [eo]
      have s7 := same_upd (o := .lst (iV (agedL (ds ++ [((some head : Option Int), nd, ws)])))) s06 hol0
      have hto : tp ≠ ol := at_ne t6 l6 nofun
      refine ⟨_, rfl, s, C, dx, _, .int cells, rfl, s7 _ _ hs, T.cl, T.nC, rfl, _, rfl, s, C, dx, _, .int head, rfl, s7 _ _ hs, T.cl, T.nH, rfl, _, rfl, head, c, rfl, rfl, ?_⟩
      refine ⟨_, rfl, _, rfl, dl, ol, xs ++ [.ref tp], ds ++ [((some head : Option Int), nd, ws)], agedL (ds ++ [((some head : Option Int), nd, ws)]), rfl, by rw [upd_ne hdo]; exact w6, (hd.same s7).snoc ⟨tp, qa, rfl, ?_, s7 _ _ hqa⟩, upd_same, agedL_nodup _, agedL_inR _, by rw [hlen]; omega, hwl, fun H8 pr ys s8 h8 d8 => ?_⟩
      · rw [upd_ne hto]
        exact t6
      have ly : ys.length ≤ 1000 := by
        rw [d8.len]
        unfold renum
        rw [List.length_map]
        have := inR_le (agedL_nodup (ds ++ [((some head : Option Int), nd, ws)])) (agedL_inR _)
        rw [hlen] at this
        omega
      refine ⟨cells, head + c, pr, ys, rfl, .inr h8, ly, fun H9 s' b s9 st9 hb9 => ?_⟩
      refine q H9 s' (s7.trans (s8.trans s9)) ⟨b, ys, st9, hb9, ?_⟩
      unfold after
      rw [← hds]
      exact d8.same s9
    · have hds : ds ++ [(none, nd, ws)] = stepD head ds (.opn c nd ws) := by
        show _ = ds ++ [(if 0 < c then some head else none, nd, ws)]
        rw [if_neg hc]
      have hlen : (ds ++ [((none : Option Int), nd, ws)]).length = ds.length + 1 := by rw [List.length_append]; rfl
      have hwl : ∀ us ∈ waitsL (ds ++ [((none : Option Int), nd, ws)]), us.length ≤ 1000 := fun us hu => by
        rw [waits_app] at hu
        obtain ⟨h1, h2⟩ := hall us hu
        exact Nat.le_trans (inR_le h1.nodup h2) (by omega)
      have hst : ∀ i, i < (ds ++ [((none : Option Int), nd, ws)]).length → (started (ds ++ [((none : Option Int), nd, ws)]) i = true ↔ i < k) := fun i hi => by
        rw [hlen] at hi
        rw [started_app hi]
        by_cases z : i = ds.length
        · rw [if_pos z]
          exact ⟨fun h => (by cases h), fun h => (by omega)⟩
        · rw [if_neg z, pre_started hk (by omega)]
      have hag : agedL (ds ++ [((none : Option Int), nd, ws)]) = (rangeI ds.length).take ds.length ++ [(ds.length : Int)] ++ (rangeI ds.length).drop ds.length := by
        rw [aged_pre (pre_of (k := k) (by rw [hlen]; omega) hst), hlen, range_last, List.take_of_length_le (by rw [rangeI_length]; exact Nat.le_refl _), List.drop_of_length_le (by rw [rangeI_length]; exact Nat.le_refl _), List.append_nil]
      refine ⟨_, rfl, s, C, dx, _, .ref a, rfl, hs, T.cl, T.nD, rfl, a, xs, rfl, .inr (SqT.of ha), fun l1 hl1 => ?_⟩
      have s1 : Same H (upd H l1 (.lst xs)) := same_new hl1
      refine ⟨_, rfl, c, 0, rfl, rfl, _, decide_eq_false hc ▸ rfl, iteF ?_⟩
      refine ⟨_, rfl, _, rfl, sz3, fun tp htp => ?_⟩
      refine ⟨sz1, fun l2 hl2 => ?_⟩
      have s3 : Same (upd H l1 (.lst xs)) (upd (upd (upd H l1 (.lst xs)) tp (.tup [.non, .int nd, .ref qa])) l2 (.lst [.ref tp])) := same_snew (same_new htp) hl2
      refine ⟨l1, l2, xs, [.ref tp], rfl, rfl, s3 _ _ upd_same, upd_same, Nat.le_of_lt (sz_lt (by rw [hln]; show ds.length + 1 < 100000; omega)), fun dl hdl => ?_⟩
      have s4 : Same H (upd (upd (upd (upd H l1 (.lst xs)) tp (.tup [.non, .int nd, .ref qa])) l2 (.lst [.ref tp])) dl (.lst (xs ++ [.ref tp]))) := same_snew (s1.trans s3) hdl
      have ht4 : (upd (upd (upd (upd H l1 (.lst xs)) tp (.tup [.non, .int nd, .ref qa])) l2 (.lst [.ref tp])) dl (.lst (xs ++ [.ref tp]))) tp = some (.tup [.non, .int nd, .ref qa]) :=
        same_new hdl _ _ (same_new hl2 _ _ upd_same)
      refine ⟨_, rfl, s, C, dx, _, .ref a, rfl, s4 _ _ hs, T.cl, T.nD, rfl, a, xs, rfl, .inr (SqT.of (s4 _ _ ha)), _, rfl, RgOk.of_le (by omega) (by omega) (by omega) (by omega), fun ol hol => ?_⟩
      rw [rg_eq ds.length _ (by rw [hln])]
      have hol0 : H ol = none := Same.free s4 hol
      have hdo : dl ≠ ol := ne_of_none upd_same hol
      have s5 := same_snew (o := .lst (iV (rangeI ds.length))) s4 hol
      have s45 := same_new (o := .lst (iV (rangeI ds.length))) hol
      refine ⟨_, rfl, .inl ⟨rfl, _, SqL.of upd_same⟩, _, rfl, c, 0, rfl, rfl, _, decide_eq_false hc ▸ rfl, iteF ?_⟩
      have l6 := (upd_same (H := (upd (upd (upd (upd H l1 (.lst xs)) tp (.tup [.non, .int nd, .ref qa])) l2 (.lst [.ref tp])) dl (.lst (xs ++ [.ref tp])))) (a := ol) (o := .lst (iV (rangeI ds.length))))
      have w6 := s45 _ _ (upd_same (H := upd (upd (upd H l1 (.lst xs)) tp (.tup [.non, .int nd, .ref qa])) l2 (.lst [.ref tp])) (a := dl) (o := .lst (xs ++ [.ref tp])))
      have t6 := s45 _ _ ht4
      have s06 := s5
      refine ⟨_, rfl, ol, _, rfl, .inl (SqL.of l6), ?_⟩
      rw [iV_len, rangeI_length]
      refine ⟨_, rfl, ol, _, rfl, .inl (SqL.of l6), ol, _, (ds.length : Nat), _, rfl, rfl, l6, sz_lt (by rw [iV_len, rangeI_length]; omega), by omega, by omega, ?_⟩
      have eo : (iV (rangeI ds.length)).take ((ds.length : Nat) : Int).toNat ++ [.int (((iV (rangeI ds.length)).length : Nat) : Int)] ++ (iV (rangeI ds.length)).drop ((ds.length : Nat) : Int).toNat = iV (agedL (ds ++ [((none : Option Int), nd, ws)])) := by
        rw [hag, Int.toNat_natCast, iV_app, iV_app, iV_take, iV_drop, iV_len, rangeI_length]
        rfl
      rw [eo]
      have s7 := same_upd (o := .lst (iV (agedL (ds ++ [((none : Option Int), nd, ws)])))) s06 hol0
      have hto : tp ≠ ol := at_ne t6 l6 nofun
      refine ⟨_, rfl, s, C, dx, _, .int cells, rfl, s7 _ _ hs, T.cl, T.nC, rfl, _, rfl, s, C, dx, _, .int head, rfl, s7 _ _ hs, T.cl, T.nH, rfl, _, rfl, head, c, rfl, rfl, ?_⟩
      refine ⟨_, rfl, _, rfl, dl, ol, xs ++ [.ref tp], ds ++ [((none : Option Int), nd, ws)], agedL (ds ++ [((none : Option Int), nd, ws)]), rfl, by rw [upd_ne hdo]; exact w6, (hd.same s7).snoc ⟨tp, qa, rfl, ?_, s7 _ _ hqa⟩, upd_same, agedL_nodup _, agedL_inR _, by rw [hlen]; omega, hwl, fun H8 pr ys s8 h8 d8 => ?_⟩
      · rw [upd_ne hto]
        exact t6
      have ly : ys.length ≤ 1000 := by
        rw [d8.len]
        unfold renum
        rw [List.length_map]
        have := inR_le (agedL_nodup (ds ++ [((none : Option Int), nd, ws)])) (agedL_inR _)
        rw [hlen] at this
        omega
      refine ⟨cells, head + c, pr, ys, rfl, .inr h8, ly, fun H9 s' b s9 st9 hb9 => ?_⟩
      refine q H9 s' (s7.trans (s8.trans s9)) ⟨b, ys, st9, hb9, ?_⟩
      unfold after
      rw [← hds]
      exact d8.same s9
theorem c_behind_wait {f : Addr} (T : Txt K w mg C D) (df : Df K mg "behind_wait" s_behind_wait f) (c_raw_standing : Cal P w K mg base 8 "raw_standing" (spRaw C))  : CalF P w K mg base 9 f "behind_wait" (spBWait C) := by
  refine calF_of df sc_behind_wait (fun vs H Q E h => ?_) (fun _ _ _ _ _ _ us hl => match us, hl with | [_, _, _], _ => rfl) (fun cdv A outer s H vs Q E hr h => ?_)
  · obtain ⟨s, cells, head, ds, d, o, rfl, _⟩ := h
    rfl
  · obtain ⟨s, cells, head, ds, d, o, rfl, ⟨a, xs, ⟨dx, hs⟩, ha, hd⟩, W, hok, q⟩ := h
    refine ⟨_, (pss_cons (ps_set (i := 3) sc_behind_wait.nd rfl (Or.inl rfl) (pe_callTy call_list_of (by rfl) T.b_list bt_list (pa_cons (pe_fld (pv 0) rfl) pa_nil))) (pss_cons (ps_asg (pe_ix ix_list (pv 3) (pv 1) (fun _ _ => rfl)) (pg_tup (by rfl) (pgs_cons (pg_name (i := 4) sc_behind_wait.nd rfl (Or.inl rfl)) (pgs_cons (pg_name (i := 5) sc_behind_wait.nd rfl (Or.inl rfl)) (pgs_cons (pg_name (i := 6) sc_behind_wait.nd rfl (Or.inl rfl)) pgs_nil))))) (pss_cons (ps_asg (pe_tup (pa_cons (pv 4) (pa_cons (pv 5) (pa_cons (pe_callTy call_tuple_of (by rfl) T.b_tuple bt_tuple (pa_cons (pe_callB cr_sortTup (by rfl) T.b_sorted bt_sorted (pa_cons (pe_op op_catJ (pv 6) (pe_tup (pa_cons (pv 2) pa_nil))) pa_nil)) pa_nil)) pa_nil)))) (pg_sub (pv 3) (pv 1) set_list)) (pss_one (ps_ret (pe_u c_raw_standing hr (by decide) (by rfl) (pa_cons (pe_fld (pv 0) rfl) (pa_cons (pe_fld (pv 0) rfl) (pa_cons (pv 3) pa_nil))))))))), ?_⟩
    obtain ⟨v, e, e1, e2, p, q2, rfl, hp, hq⟩ := hd.get hok.1
    obtain ⟨k, hk⟩ := W.pre
    have hn := W.len
    have hln := hd.len
    have hdn := hok.1
    have hem : e.2.2 ∈ waitsL ds := List.mem_map_of_mem (f := fun d : Deed => d.2.2) (List.mem_of_getElem? e2)
    have hno : (o : Int) ∉ e.2.2 := by
      have := hok.2.2
      rw [getD_of e2] at this
      exact this
    have hds : ds.set d (e.1, e.2.1, isort (e.2.2 ++ [(o : Int)])) = stepD head ds (.wai d o) := by
      show _ = ds.set d ((ds.getD d noDeed).1, (ds.getD d noDeed).2.1, isort ((ds.getD d noDeed).2.2 ++ [(o : Int)]))
      rw [getD_of e2]
    have hnd : (e.2.2 ++ [(o : Int)]).Nodup := by
      refine List.nodup_append.mpr ⟨(W.good.asc _ hem).nodup, by simp, fun x hx y hy => ?_⟩
      rw [List.mem_singleton.mp hy]
      intro z
      exact hno (z ▸ hx)
    have hws : ∀ ws ∈ waitsL (ds.set d (e.1, e.2.1, isort (e.2.2 ++ [(o : Int)]))), Asc ws ∧ InR ds.length ws := fun ws hw => by
      obtain ⟨x, hx, rfl⟩ := List.mem_map.mp hw
      rcases List.mem_or_eq_of_mem_set hx with h1 | h1
      · exact ⟨W.good.asc _ (List.mem_map_of_mem (f := fun d : Deed => d.2.2) h1), W.good.inr _ (List.mem_map_of_mem (f := fun d : Deed => d.2.2) h1)⟩
      · rw [h1]
        refine ⟨isort_asc hnd, fun y hy => ?_⟩
        rcases List.mem_append.mp (mem_isort.mp hy) with h2 | h2
        · exact W.good.inr _ hem y h2
        · rw [List.mem_singleton.mp h2]
          have := hok.2.1
          omega
    have haft : after (stepD head ds (.wai d o)) = stepD head ds (.wai d o) := by
      rw [← hds]
      unfold after
      rw [aged_pre (pre_set (d' := (e.1, e.2.1, isort (e.2.2 ++ [(o : Int)]))) hk e2 rfl), renum_range (fun ws hw => (hws ws hw).1) (fun ws hw => by rw [List.length_set]; exact (hws ws hw).2)]
    obtain ⟨U, hU, hWU⟩ := W.good.few
    have h63 : e.2.2.length ≤ U.length := nodup_le (W.good.asc _ hem).nodup (hWU _ hem)
    refine ⟨_, rfl, s, C, dx, _, .ref a, rfl, hs, T.cl, T.nD, rfl, a, xs, rfl, .inr (SqT.of ha), fun dl hdl => ?_⟩
    have s1 : Same H (upd H dl (.lst xs)) := same_new hdl
    refine ⟨_, rfl, _, rfl, dl, xs, (d : Int), .ref p, rfl, rfl, SqL.of upd_same, atI_nat e1, p, _, rfl, SqT.of (s1 _ _ hp), rfl, _, _, rfl, _, _, rfl, _, _, rfl, rfl, ?_⟩
    refine ⟨_, rfl, _, rfl, _, rfl, _, rfl, sz1, fun p1 hp1 => ?_⟩
    have s2 := same_snew (o := .tup [.int (o : Int)]) s1 hp1
    refine ⟨q2, p1, _, _, rfl, rfl, s2 _ _ hq, upd_same, Nat.le_of_lt (sz_lt (by rw [iV_len]; show e.2.2.length + 1 < 100000; omega)), fun p2 H2 s3 h2 => ?_⟩
    have h2' : H2 p2 = some (.tup (iV (e.2.2 ++ [(o : Int)]))) := by
      rw [h2, iV_app]
      rfl
    refine ⟨p2, _, rfl, SqT.of h2', by rw [List.length_append, List.length_singleton]; omega, fun ns p3 n1 n2 hp3 => ?_⟩
    have en : ns = isort (e.2.2 ++ [(o : Int)]) := isort_eq n1 n2
    refine ⟨p3, _, rfl, .inl ⟨SqL.of upd_same, fun p4 hp4 => ⟨sz3, fun p5 hp5 => ?_⟩⟩⟩
    have s13 := (same_new (o := .tup [.int (o : Int)]) hp1).trans s3
    have s4 := same_snew (o := .tup [fV e.1, .int e.2.1, .ref p4]) (same_snew (o := .tup (iV ns)) (same_snew (o := .lst (iV ns)) s13 hp3) hp4) hp5
    have w5 := s4 _ _ (upd_same (H := H) (a := dl) (o := .lst xs))
    refine ⟨_, rfl, _, rfl, dl, xs, (d : Int), d, rfl, rfl, w5, ixN_nat (by omega), ?_⟩
    have s6 := same_upd (o := .lst (xs.set d (.ref p5))) (s1.trans s4) hdl
    have w4 : dl ≠ p4 := ne_of_none (same_snew (o := .lst (iV ns)) s13 hp3 _ _ (upd_same (H := H) (a := dl) (o := .lst xs))) hp4
    have w5' : dl ≠ p5 := ne_of_none (same_snew (o := .tup (iV ns)) (same_snew (o := .lst (iV ns)) s13 hp3) hp4 _ _ (upd_same (H := H) (a := dl) (o := .lst xs))) hp5
    have w45 : p4 ≠ p5 := ne_of_none upd_same hp5
    refine ⟨_, rfl, s, C, dx, _, .int cells, rfl, s6 _ _ hs, T.cl, T.nC, rfl, _, rfl, s, C, dx, _, .int head, rfl, s6 _ _ hs, T.cl, T.nH, rfl, _, rfl, ?_⟩
    refine ⟨cells, head, dl, xs.set d (.ref p5), rfl, .inl upd_same, by rw [List.length_set]; omega, fun H9 s' b s9 st9 hb9 => ?_⟩
    refine q H9 s' (s6.trans s9) ⟨b, _, st9, hb9, ?_⟩
    rw [haft, ← hds]
    refine ((hd.same s6).set d ⟨p5, p4, rfl, ?_, ?_⟩).same s9
    · rw [upd_ne w5'.symm, upd_same]
    · rw [upd_ne w4.symm, upd_ne w45, upd_same, en]

end
end Rc
set_option maxHeartbeats 4000000
namespace Rc
open PySem PySem.Spec PyProof.Rows L2
section
variable {P : Program} {w : World} {K : PySem.W.Frag} {mg : Str → Option Value} {base : Heap} {C D : Addr}
/-! behind_of, behind -/
theorem c_behind_of {f : Addr} (T : Txt K w mg C D) (df : Df K mg "behind_of" s_behind_of f) (c_behind_row : Cal P w K mg base 9 "behind_row" (spBRow C)) (c_behind_open : Cal P w K mg base 9 "behind_open" (spBOpen C)) (c_behind_wait : Cal P w K mg base 9 "behind_wait" (spBWait C))  : CalF P w K mg base 10 f "behind_of" (spBOf C) := by
  refine calF_of df sc_behind_of (fun vs H Q E h => ?_) (fun _ _ _ _ _ _ us hl => match us, hl with | [_, _], _ => rfl) (fun cdv A outer s H vs Q E hr h => ?_)
  · obtain ⟨s, cells, head, ds, t, w, rfl, _⟩ := h
    rfl
  · obtain ⟨s, cells, head, ds, t, w, rfl, hst, W, hw, hok, q⟩ := h
    refine ⟨_, (pss_cons (ps_if (pt_cmpR op_eq (pe_ix ix_tup (pv 1) pe_int (fun _ _ => rfl)) (C8.pe_gc (by rfl) T.row) (nomark _)) (pss_one (ps_ret (pe_u c_behind_row hr (by decide) (by rfl) (pa_cons (pv 0) (pa_cons (pe_ix ix_tup (pv 1) pe_int (fun _ _ => rfl)) (pa_cons (pe_ix ix_tup (pv 1) pe_int (fun _ _ => rfl)) (pa_cons (pe_ix ix_tup (pv 1) pe_int (fun _ _ => rfl)) pa_nil))))))) pss_nil) (pss_cons (ps_if (pt_cmpR op_eq (pe_ix ix_tup (pv 1) pe_int (fun _ _ => rfl)) (C8.pe_gc (by rfl) T.opn) (nomark _)) (pss_one (ps_ret (pe_u c_behind_open hr (by decide) (by rfl) (pa_cons (pv 0) (pa_cons (pe_ix ix_tup (pv 1) pe_int (fun _ _ => rfl)) (pa_cons (pe_ix ix_tup (pv 1) pe_int (fun _ _ => rfl)) (pa_cons (pe_ix ix_tup (pv 1) pe_int (fun _ _ => rfl)) pa_nil))))))) pss_nil) (pss_one (ps_ret (pe_u c_behind_wait hr (by decide) (by rfl) (pa_cons (pv 0) (pa_cons (pe_ix ix_tup (pv 1) pe_int (fun _ _ => rfl)) (pa_cons (pe_ix ix_tup (pv 1) pe_int (fun _ _ => rfl)) pa_nil)))))))), ?_⟩
    cases w with
    | row d c nd =>
      have ht : H t = some (.tup [.str "row", .int (d : Nat), .int c, .int nd]) := hw
      refine ⟨_, rfl, t, _, 0, _, rfl, rfl, SqT.of ht, rfl, rfl, true, congrArg V.bl (decide_eq_true rfl), iteT ?_⟩
      exact ⟨_, rfl, _, rfl, t, _, 1, _, rfl, rfl, SqT.of ht, rfl, _, rfl, t, _, 2, _, rfl, rfl, SqT.of ht, rfl, _, rfl, t, _, 3, _, rfl, rfl, SqT.of ht, rfl, s, cells, head, ds, d, c, nd, rfl, hst, W, hok, q⟩
    | opn c nd ws =>
      obtain ⟨qa, ht, hq⟩ := hw
      refine ⟨_, rfl, t, _, 0, _, rfl, rfl, SqT.of ht, rfl, rfl, false, congrArg V.bl (decide_eq_false fun z => ro (by injection z with z; exact z.symm)), iteF ?_⟩
      refine ⟨_, rfl, t, _, 0, _, rfl, rfl, SqT.of ht, rfl, rfl, true, congrArg V.bl (decide_eq_true rfl), iteT ?_⟩
      exact ⟨_, rfl, _, rfl, t, _, 1, _, rfl, rfl, SqT.of ht, rfl, _, rfl, t, _, 2, _, rfl, rfl, SqT.of ht, rfl, _, rfl, t, _, 3, _, rfl, rfl, SqT.of ht, rfl, s, cells, head, ds, c, nd, qa, ws, rfl, hst, W, hok, hq, q⟩
    | wai d o =>
      have ht : H t = some (.tup [.str "wait", .int (d : Nat), .int (o : Nat)]) := hw
      refine ⟨_, rfl, t, _, 0, _, rfl, rfl, SqT.of ht, rfl, rfl, false, congrArg V.bl (decide_eq_false fun z => rw_ (by injection z with z; exact z.symm)), iteF ?_⟩
      refine ⟨_, rfl, t, _, 0, _, rfl, rfl, SqT.of ht, rfl, rfl, false, congrArg V.bl (decide_eq_false fun z => ow (by injection z with z; exact z.symm)), iteF ?_⟩
      refine ⟨_, rfl, _, rfl, t, _, 1, _, rfl, rfl, SqT.of ht, rfl, _, rfl, t, _, 2, _, rfl, rfl, SqT.of ht, rfl, s, cells, head, ds, d, o, rfl, hst, W, hok, fun H' s' e st => q H' s' e ?_⟩
      show StD C H' s' cells (head + 0) _
      rw [Int.add_zero]
      exact st
theorem c_behind {f : Addr} (T : Txt K w mg C D) (df : Df K mg "behind" s_behind f) (c_check_wish : Cal P w K mg base 6 "check_wish" (spCheckWish C)) (c_behind_of : Cal P w K mg base 10 "behind_of" (spBOf C))  : CalF P w K mg base 11 f "behind" (spBehind C) := by
  refine calF_of df sc_behind (fun vs H Q E h => ?_) (fun _ _ _ _ _ _ us hl => match us, hl with | [_, _], _ => rfl) (fun cdv A outer s H vs Q E hr h => ?_)
  · obtain ⟨s, cells, head, ds, t, w, rfl, _⟩ := h
    rfl
  · obtain ⟨s, cells, head, ds, t, w, rfl, hst, W, kx, hdue, hw, hok, q⟩ := h
    refine ⟨_, (pss_cons (ps_expr (pe_u c_check_wish hr (by decide) (by rfl) (pa_cons (pv 0) (pa_cons (pv 1) pa_nil)))) (pss_one (ps_ret (pe_u c_behind_of hr (by decide) (by rfl) (pa_cons (pv 0) (pa_cons (pv 1) pa_nil)))))), ?_⟩
    exact ⟨_, rfl, _, rfl, s, cells, head, ds, .ref t, rfl, hst, W.len, W.good, kx, hdue, fun H1 s1 => ⟨_, rfl, _, rfl, s, cells, head, ds, t, w, rfl, hst.same s1, W, hw.same s1, hok, fun H2 s' s2 st => q H2 s' (s1.trans s2) st⟩⟩
theorem waitOk_of {ds : List Deed} {a b : V} (h : waitB ds a b = true) : WaitOk ds a b := Classical.byContradiction fun n => by
  rw [waitB_false n] at h
  cases h
/-- a due wish is one of the three, and may be granted -/
theorem due_wish {ds : List Deed} {H : Hp} {x : V} (h : dueB ds H x = true) : ∃ t w, x = .ref t ∧ WishAt H t w ∧ WishOk ds w := by
  unfold dueB at h
  cases e : tupOf H x with
  | none =>
    rw [e] at h
    cases h
  | some xs =>
    rw [e] at h
    obtain ⟨t, rfl, ht⟩ := tupOf_some e
    have h1 : dueT ds H xs = true := h
    match xs, ht, h1 with
    | .str z :: r, ht, h1 =>
      have h2 : dueW ds H z r = true := h1
      match r, ht, h2 with
      | [a, b, c], ht, h2 =>
        have h3 : (if z = ("row" : Str) then rowB ds.length a b c else if z = ("open" : Str) then openB ds.length H a b c else false) = true := h2
        by_cases z1 : z = ("row" : Str)
        · rw [if_pos z1] at h3
          subst z1
          unfold rowB at h3
          rw [Bool.and_eq_true, Bool.and_eq_true] at h3
          obtain ⟨b1, b2, b3⟩ := h3
          obtain ⟨i, rfl, i1, i2⟩ := within_of b1
          obtain ⟨j, rfl, j1, j2⟩ := within_of b2
          obtain ⟨l, rfl, l1, l2⟩ := within_of b3
          have ei : ((i.toNat : Nat) : Int) = i := by omega
          refine ⟨t, .row i.toNat j l, rfl, ?_, ?_⟩
          · show H t = some (.tup [.str "row", .int ((i.toNat : Nat) : Int), .int j, .int l])
            rw [ei]
            exact ht
          · exact ⟨by omega, j1, j2, l1, l2⟩
        · rw [if_neg z1] at h3
          by_cases z2 : z = ("open" : Str)
          · rw [if_pos z2] at h3
            subst z2
            unfold openB at h3
            rw [Bool.and_eq_true, Bool.and_eq_true, Bool.and_eq_true] at h3
            obtain ⟨b0, b1, b2, b3⟩ := h3
            obtain ⟨i, rfl, i1, i2⟩ := within_of b1
            obtain ⟨j, rfl, j1, j2⟩ := within_of b2
            unfold lotB at b3
            cases e3 : tupOf H c with
            | none =>
              rw [e3] at b3
              cases b3
            | some ys =>
              rw [e3] at b3
              obtain ⟨q, rfl, hq⟩ := tupOf_some e3
              obtain ⟨ws, rfl, w1, w2⟩ := lotL_lot ys (-1) b3
              refine ⟨t, .opn i j ws, rfl, ⟨q, ht, hq⟩, i1, i2, j1, j2, of_decide_eq_true b0, w1, fun x hx => ?_⟩
              have := w2 x hx
              omega
          · rw [if_neg z2] at h3
            cases h3
      | [a, b], ht, h2 =>
        have h3 : (if z = ("wait" : Str) then waitB ds a b else false) = true := h2
        by_cases z1 : z = ("wait" : Str)
        · rw [if_pos z1] at h3
          subst z1
          obtain ⟨d, o, y, rfl, rfl, hd, ho, hne, hno, hnr⟩ := waitOk_of h3
          refine ⟨t, .wai d o, rfl, ht, (List.getElem?_eq_some_iff.mp hd).1, ho, ?_⟩
          rw [getD_of hd]
          exact hno
        · rw [if_neg z1] at h3
          cases h3
end
section
variable {P : Program} {w : World} {K : PySem.W.Frag} {mg : Str → Option Value} {base : Heap} {C D : Addr}

end
end Rc
set_option maxHeartbeats 4000000
namespace Rc
open PySem PySem.Spec PyProof.Rows L2
section
variable {P : Program} {w : World} {K : PySem.W.Frag} {mg : Str → Option Value} {base : Heap} {C D : Addr}
/-! the law's drawing hand: _law_hand, _law_draw -/
/-- the hand at h, its cells at c -/
structure HandC (H : Hp) (h c : Addr) : Prop where
  ex : ∃ (cs : List Int) (p b s n : Int), H h = some (.lst [.ref c, .int p, .int b, .int s, .int n]) ∧ H c = some (.lst (iV cs)) ∧ c ≠ h ∧ (∀ x ∈ cs, 0 ≤ x) ∧ 0 ≤ p ∧ 0 ≤ b ∧ 0 ≤ s ∧ 0 ≤ n
theorem HandC.same {H H' : Hp} {h c : Addr} (s : Same H H') (x : HandC H h c) : HandC H' h c := by
  obtain ⟨cs, p, b, z, n, h1, h2, r⟩ := x
  exact ⟨cs, p, b, z, n, s _ _ h1, s _ _ h2, r⟩
theorem HandC.upd {H : Hp} {h c b : Addr} {o : HO} (x : HandC H h c) (nh : b ≠ h) (nc : b ≠ c) : HandC (upd H b o) h c := by
  obtain ⟨cs, p, b, z, n, h1, h2, r⟩ := x
  exact ⟨cs, p, b, z, n, by rw [upd_ne nh.symm]; exact h1, by rw [upd_ne nc.symm]; exact h2, r⟩
def spHand (K : PySem.W.Frag) : Sp := fun vs H Q _ => ∃ (a : Addr) (ns : List Int), vs = [.ref a] ∧ SqL K H a (iV ns) ∧ ns.length ≤ 63 ∧ ∀ (H' : Hp) (h c : Addr), HandC H' h c → Q (.ref h) H'
def spDraw : Sp := fun vs H Q _ => ∃ (h c : Addr) (m : Int), vs = [.ref h, .int m] ∧ HandC H h c ∧ 0 < m ∧ m < 1073741824 ∧ ∀ (H' : Hp) (r : Int), HandC H' h c → Same (No h H) (No h H') → 0 ≤ r → r < m → Q (.int r) H'
theorem handAt {H : Hp} {h c : Addr} {cs : List Int} {p b s n : Int} (h1 : H h = some (.lst [.ref c, .int p, .int b, .int s, .int n])) (h2 : H c = some (.lst (iV cs))) (ne : c ≠ h) (hcs : ∀ x ∈ cs, 0 ≤ x) (hp : 0 ≤ p) (hb : 0 ≤ b) (hs : 0 ≤ s) (hn : 0 ≤ n) : HandC H h c :=
  ⟨cs, p, b, s, n, h1, h2, ne, hcs, hp, hb, hs, hn⟩
theorem c_l_hand {f : Addr} (T : Txt K w mg C D) (df : Df K mg "_law_hand" s_l_hand f)   : CalF P w K mg base 1 f "_law_hand" (spHand K) := by
  refine calF_of df sc_l_hand (fun vs H Q E h => ?_) (fun _ _ _ _ _ _ us hl => match us, hl with | [_], _ => rfl) (fun cdv A outer s H vs Q E hr h => ?_)
  · obtain ⟨a, ns, rfl, _⟩ := h
    rfl
  · obtain ⟨a, ns, rfl, ha, hl, q⟩ := h
    refine ⟨_, (pss_cons (ps_setLc (i := 1) rfl sc_l_hand.nd rfl rfl (sw_true rfl rfl rfl (by decide +kernel)) (pi_list (pe_slice sl_list (pv 0) po_none (po_some pe_int))) (blkOk_by (own := [("_law_cell", 2)]) (N := N_l_hand) (sc := defScope s_l_hand) (by decide +kernel)) (fun _ _ _ _ _ => (pg_name (i := 2) sc_l_hand.nd rfl (Or.inl rfl))) (fun _ _ _ _ _ => pts_nil) (fun _ _ _ _ _ => (pe_callB call_abs (by rfl) T.b_abs bt_abs (pa_cons (pe_callTy call_int1 (by rfl) T.b_int bt_int (pa_cons (pv 2) pa_nil)) pa_nil)))) (pss_one (ps_ret (pe_lst (pa_cons (pv 1) (pa_cons pe_int (pa_cons pe_int (pa_cons (pe_op op_add pe_int (pe_callB call_len_seq (by rfl) T.b_len bt_len (pa_cons (pv 1) pa_nil))) (pa_cons pe_int pa_nil))))))))), ?_⟩
    have hcut : cutV (iV ns) none (some 63) = iV ns := by
      have e : HT.sIx (iV ns).length (iV ns).length (some 63) = (iV ns).length ∧ HT.sIx (iV ns).length 0 none = 0 := by
        rw [iV_len]
        refine ⟨?_, rfl⟩
        unfold HT.sIx
        simp
        omega
      unfold cutV
      rw [e.1, e.2, List.drop_zero, Nat.sub_zero, List.take_length]
    refine ⟨_, rfl, 63, rfl, a, _, rfl, ha, fun p hp => ?_⟩
    rw [hcut]
    refine ⟨p, rfl, ⟨_, SqL.of upd_same⟩, fun Dl hDl => lc_list (K := K) (a := p) (xs := iV ns) (fun i H' => H' p = some (.lst (iV ns)) ∧ Dl ≠ p ∧ i ≤ ns.length ∧ ∃ cs : List Int, H' Dl = some (.lst (iV cs)) ∧ cs.length = i ∧ ∀ x ∈ cs, 0 ≤ x)
      ⟨by rw [upd_ne (ne_of_none upd_same hDl), upd_same], (ne_of_none upd_same hDl).symm, Nat.zero_le _, [], upd_same, rfl, fun x hx => by cases hx⟩ (fun i H' _ z => SqL.of z.1) ?_ ?_⟩
    · rintro i x H1 hi ⟨h1, h2, h3, cs, h4, h5, h6⟩
      obtain ⟨z, hz, rfl⟩ := iV_get hi
      have hil := (List.getElem?_eq_some_iff.mp hz).1
      refine ⟨rfl, yes_ite ?_⟩
      refine ⟨_, rfl, .inl ⟨z, rfl, z, rfl, iV cs, h4, sz_lt (by rw [iV_len]; omega), by rw [upd_ne h2.symm]; exact h1, h2, hil, cs ++ [if z < 0 then -z else z], by rw [upd_same, iV_app]; rfl, by rw [List.length_append, h5]; rfl, fun x hx => ?_⟩⟩
      rcases List.mem_append.mp hx with hx | hx
      · exact h6 x hx
      · rw [List.mem_singleton.mp hx]
        by_cases hz0 : z < 0
        · rw [if_pos hz0]
          omega
        · rw [if_neg hz0]
          omega
    · rintro H1 ⟨h1, h2, h3, cs, h4, h5, h6⟩
      refine ⟨_, rfl, _, rfl, Dl, iV cs, rfl, .inl (SqL.of h4), 1, _, rfl, rfl, (by decide : 5 ≤ sizeLine), fun h hh => ?_⟩
      exact q _ h Dl (handAt upd_same (by rw [upd_ne (ne_of_none h4 hh)]; exact h4) (ne_of_none h4 hh) h6 (by decide) (by decide) (by omega) (by decide))
theorem c_l_draw {f : Addr} (T : Txt K w mg C D) (df : Df K mg "_law_draw" s_l_draw f)   : CalF P w K mg base 1 f "_law_draw" (spDraw) := by
  refine calF_of df sc_l_draw (fun vs H Q E h => ?_) (fun _ _ _ _ _ _ us hl => match us, hl with | [_, _], _ => rfl) (fun cdv A outer s H vs Q E hr h => ?_)
  · obtain ⟨h, c, m, rfl, _⟩ := h
    rfl
  · obtain ⟨h, c, m, rfl, hH, hm0, hm1, q⟩ := h
    refine ⟨_, (Evl.pss_cut (ps_if (PW.pt (pw_and (pt_cmpR op_eq (pe_ix ix_list (pv 0) pe_int (fun _ _ => rfl)) pe_int (nomark _)) (pw_and1 (pt_cmpR op_lt (pe_ix ix_list (pv 0) pe_int (fun _ _ => rfl)) (pe_callB call_len_seq (by rfl) T.b_len bt_len (pa_cons (pe_ix ix_list (pv 0) pe_int (fun _ _ => rfl)) pa_nil)) (nomark _))))) (pss_cons (ps_set (i := 2) sc_l_draw.nd rfl (Or.inl rfl) (pe_ix ix_list (pe_ix ix_list (pv 0) pe_int (fun _ _ => rfl)) (pe_ix ix_list (pv 0) pe_int (fun _ _ => rfl)) (fun _ _ => rfl))) (pss_cons (ps_asg (pe_op op_add (pe_ix ix_list (pv 0) pe_int (fun _ _ => rfl)) pe_int) (pg_sub (pv 0) pe_int set_list)) (pss_cons (ps_asg (pe_op op_mod (pe_callTy call_int1 (by rfl) T.b_int bt_int (pa_cons (pe_op op_add (pe_op op_add (pe_op op_mul (pe_ix ix_list (pv 0) pe_int (fun _ _ => rfl)) pe_int) (pv 2)) pe_int) pa_nil)) pe_int) (pg_sub (pv 0) pe_int set_list)) (pss_one (ps_if (pt_cmpR op_ge (pv 2) (pe_op op_pow pe_int pe_int) (nomark _)) (pss_one (ps_asg (pv 2) (pg_sub (pv 0) pe_int set_list))) pss_nil))))) pss_nil) (pss_cons (ps_if (pt_cmpR op_gt (pe_ix ix_list (pv 0) pe_int (fun _ _ => rfl)) pe_int (nomark _)) (pss_cons (ps_set (i := 3) sc_l_draw.nd rfl (Or.inl rfl) (pe_op op_mod (pe_callTy call_int1 (by rfl) T.b_int bt_int (pa_cons (pe_ix ix_list (pv 0) pe_int (fun _ _ => rfl)) pa_nil)) (pv 1))) (pss_cons (ps_asg (pe_op op_fdiv (pe_ix ix_list (pv 0) pe_int (fun _ _ => rfl)) (pv 1)) (pg_sub (pv 0) pe_int set_list)) (pss_one (ps_ret (pv 3))))) pss_nil) (pss_cons (ps_asg (pe_op op_add (pe_ix ix_list (pv 0) pe_int (fun _ _ => rfl)) pe_int) (pg_sub (pv 0) pe_int set_list)) (pss_cons (ps_set (i := 4) sc_l_draw.nd rfl (Or.inl rfl) (pe_op op_mod (pe_callTy call_int1 (by rfl) T.b_int bt_int (pa_cons (pe_op op_mul (pe_callTy call_int1 (by rfl) T.b_int bt_int (pa_cons (pe_op op_add (pe_ix ix_list (pv 0) pe_int (fun _ _ => rfl)) (pe_op op_mul pe_int (pe_ix ix_list (pv 0) pe_int (fun _ _ => rfl)))) pa_nil)) pe_int) pa_nil)) pe_int)) (pss_cons (ps_set (i := 4) sc_l_draw.nd rfl (Or.inl rfl) (pe_op op_mod (pe_callTy call_int1 (by rfl) T.b_int bt_int (pa_cons (pe_op op_mul (pv 4) (pe_op op_add (pe_op op_fdiv (pv 4) pe_int) pe_int)) pa_nil)) pe_int)) (pss_cons (ps_set (i := 4) sc_l_draw.nd rfl (Or.inl rfl) (pe_op op_mod (pe_callTy call_int1 (by rfl) T.b_int bt_int (pa_cons (pe_op op_mul (pv 4) (pe_op op_add (pe_op op_fdiv (pv 4) pe_int) pe_int)) pa_nil)) pe_int)) (pss_one (ps_ret (pe_op op_mod (pe_callTy call_int1 (by rfl) T.b_int bt_int (pa_cons (pe_op op_fdiv (pv 4) pe_int) pa_nil)) (pv 1)))))))))), ?_⟩
    refine ⟨fun σ' H' => ∃ v2 v3 v4 : Option V, σ' = [some (.ref h), some (.int m), v2, v3, v4] ∧ HandC H' h c ∧ Same (No h H) (No h H'), ?_, ?_⟩
    · obtain ⟨cs, p, b, s, n, hh, hc, ne, hcs, hp, hb, hs, hn⟩ := hH
      refine ⟨_, rfl, h, _, 2, .int b, rfl, rfl, SqL.of hh, rfl, rfl, _, rfl, ite2 (fun h1 => ?_) (fun h1 => ?_)⟩
      · refine ⟨_, rfl, h, _, 1, .int p, rfl, rfl, SqL.of hh, rfl, _, rfl, h, _, 0, .ref c, rfl, rfl, SqL.of hh, rfl, c, iV cs, rfl, .inl (SqL.of hc), _, _, rfl, rfl, _, rfl, ite2 (fun h2 => ?_) (fun h2 => ?_)⟩
        · have h3 : p < ((iV cs).length : Nat) := of_decide_eq_true h2
          rw [iV_len] at h3
          obtain ⟨k, rfl⟩ : ∃ k : Nat, p = (k : Int) := ⟨p.toNat, by omega⟩
          obtain ⟨x, hx⟩ : ∃ x, cs[k]? = some x := ⟨_, List.getElem?_eq_getElem (by omega)⟩
          have hx0 := hcs x (List.mem_of_getElem? hx)
          have hxa : atI (iV cs) (k : Int) = some (.int x) := atI_nat (by rw [List.getElem?_map, hx]; rfl)
          refine ⟨_, rfl, h, _, 0, .ref c, rfl, rfl, SqL.of hh, rfl, _, rfl, h, _, 1, .int (k : Int), rfl, rfl, SqL.of hh, rfl, c, iV cs, (k : Int), .int x, rfl, rfl, SqL.of hc, hxa, ?_⟩
          refine ⟨_, rfl, h, _, 1, .int (k : Int), rfl, rfl, SqL.of hh, rfl, _, 1, rfl, rfl, _, rfl, h, _, 1, 1, rfl, rfl, hh, rfl, ?_⟩
          have hh1 : (upd H h (.lst ([.ref c, .int (k : Int), .int b, .int s, .int n].set 1 (.int ((k : Int) + 1))))) h = some (.lst [.ref c, .int ((k : Int) + 1), .int b, .int s, .int n]) := upd_same
          refine ⟨_, rfl, h, _, 3, .int s, rfl, rfl, SqL.of hh1, rfl, s, 69621, rfl, rfl, .inr ⟨by decide, by decide⟩, _, rfl, _, x, rfl, rfl, _, 11, rfl, rfl, .inl ⟨_, rfl, _, 2147483629, rfl, rfl, (by decide : (0 : Int) < 2147483629), _, rfl, h, _, 3, 3, rfl, rfl, hh1, rfl, ?_⟩⟩
          have hs2 : 0 ≤ (s * 69621 + x + 11) % 2147483629 := Int.emod_nonneg _ (by decide)
          have hh2 : (upd (upd H h (.lst ([.ref c, .int (k : Int), .int b, .int s, .int n].set 1 (.int ((k : Int) + 1))))) h (.lst ([.ref c, .int ((k : Int) + 1), .int b, .int s, .int n].set 3 (.int ((s * 69621 + x + 11) % 2147483629))))) h = some (.lst [.ref c, .int ((k : Int) + 1), .int b, .int ((s * 69621 + x + 11) % 2147483629), .int n]) := upd_same
          have hc2 : (upd (upd H h (.lst ([.ref c, .int (k : Int), .int b, .int s, .int n].set 1 (.int ((k : Int) + 1))))) h (.lst ([.ref c, .int ((k : Int) + 1), .int b, .int s, .int n].set 3 (.int ((s * 69621 + x + 11) % 2147483629))))) c = some (.lst (iV cs)) := by rw [upd_ne ne, upd_ne ne]; exact hc
          have nn : Same (No h H) (No h (upd (upd H h (.lst ([.ref c, .int (k : Int), .int b, .int s, .int n].set 1 (.int ((k : Int) + 1))))) h (.lst ([.ref c, .int ((k : Int) + 1), .int b, .int s, .int n].set 3 (.int ((s * 69621 + x + 11) % 2147483629)))))) := no_write.trans no_write
          refine ⟨_, rfl, 10, 18, rfl, rfl, ⟨by decide, by decide, by decide⟩, x, _, rfl, rfl, _, rfl, ite2 (fun h4 => ?_) (fun h4 => ?_)⟩
          · refine ⟨_, rfl, _, rfl, h, _, 2, 2, rfl, rfl, hh2, rfl, ?_⟩
            exact ⟨_, _, _, rfl, handAt upd_same (by rw [upd_ne ne]; exact hc2) ne hcs (by omega) hx0 hs2 hn, nn.trans no_write⟩
          · exact ⟨_, _, _, rfl, handAt hh2 hc2 ne hcs (by omega) hb hs2 hn, nn⟩
        · exact ⟨_, _, _, rfl, handAt hh hc ne hcs hp hb hs hn, Same.refl _⟩
      · exact ⟨_, _, _, rfl, handAt hh hc ne hcs hp hb hs hn, Same.refl _⟩
    · rintro σ H1 ⟨v2, v3, v4, rfl, ⟨cs, p, b, s, n, hh, hc, ne, hcs, hp, hb, hs, hn⟩, s1⟩
      refine ⟨_, rfl, h, _, 2, .int b, rfl, rfl, SqL.of hh, rfl, _, _, rfl, rfl, _, rfl, ite2 (fun h1 => ?_) (fun h1 => ?_)⟩
      · refine ⟨_, rfl, h, _, 2, .int b, rfl, rfl, SqL.of hh, rfl, .inl ⟨b, rfl, _, rfl, _, _, rfl, rfl, hm0, ?_⟩⟩
        refine ⟨_, rfl, h, _, 2, .int b, rfl, rfl, SqL.of hh, rfl, _, rfl, _, _, rfl, rfl, ⟨hm0, hm1⟩, _, rfl, h, _, 2, 2, rfl, rfl, hh, rfl, ?_⟩
        refine ⟨_, rfl, q _ (b % m) (handAt upd_same (by rw [upd_ne ne]; exact hc) ne hcs hp (Int.ediv_nonneg hb (by omega)) hs hn) (s1.trans no_write) (Int.emod_nonneg _ (by omega)) (Int.emod_lt_of_pos _ hm0)⟩
      · refine ⟨_, rfl, h, _, 4, .int n, rfl, rfl, SqL.of hh, rfl, _, 1, rfl, rfl, _, rfl, h, _, 4, 4, rfl, rfl, hh, rfl, ?_⟩
        have hh1 : (upd H1 h (.lst ([.ref c, .int p, .int b, .int s, .int n].set 4 (.int (n + 1))))) h = some (.lst [.ref c, .int p, .int b, .int s, .int (n + 1)]) := upd_same
        refine ⟨_, rfl, h, _, 3, .int s, rfl, rfl, SqL.of hh1, rfl, _, rfl, h, _, 4, .int (n + 1), rfl, rfl, SqL.of hh1, rfl, 7919, _, rfl, rfl, .inl ⟨by decide, by decide⟩, _, _, rfl, rfl, .inl ⟨_, rfl, _, 48271, rfl, rfl, .inr ⟨by decide, by decide⟩, .inl ⟨_, rfl, _, 2147483647, rfl, rfl, (by decide : (0 : Int) < 2147483647), ?_⟩⟩⟩
        have a1 : 0 ≤ ((s + 7919 * (n + 1)) * 48271) % 2147483647 := Int.emod_nonneg _ (by decide)
        have a2 : ((s + 7919 * (n + 1)) * 48271) % 2147483647 < 2147483647 := Int.emod_lt_of_pos _ (by decide)
        refine ⟨_, rfl, _, rfl, _, 1009, rfl, rfl, ⟨by decide, by decide⟩, _, 69621, rfl, rfl, _, _, rfl, rfl, .inl ⟨by omega, by omega⟩, .inl ⟨_, rfl, _, 2147483647, rfl, rfl, (by decide : (0 : Int) < 2147483647), ?_⟩⟩
        have b1 : 0 ≤ ((((s + 7919 * (n + 1)) * 48271) % 2147483647) * ((((s + 7919 * (n + 1)) * 48271) % 2147483647) / 1009 + 69621)) % 2147483647 := Int.emod_nonneg _ (by decide)
        have b2 : ((((s + 7919 * (n + 1)) * 48271) % 2147483647) * ((((s + 7919 * (n + 1)) * 48271) % 2147483647) / 1009 + 69621)) % 2147483647 < 2147483647 := Int.emod_lt_of_pos _ (by decide)
        refine ⟨_, rfl, _, rfl, _, 2003, rfl, rfl, ⟨by decide, by decide⟩, _, 40692, rfl, rfl, _, _, rfl, rfl, .inl ⟨by omega, by omega⟩, .inl ⟨_, rfl, _, 2147483399, rfl, rfl, (by decide : (0 : Int) < 2147483399), ?_⟩⟩
        refine ⟨_, rfl, _, 16, rfl, rfl, ⟨by decide, by decide⟩, .inl ⟨_, rfl, _, rfl, _, _, rfl, rfl, hm0, ?_⟩⟩
        exact q _ _ (handAt hh1 (by rw [upd_ne ne]; exact hc) ne hcs hp hb hs (by omega)) (s1.trans no_write) (Int.emod_nonneg _ (by omega)) (Int.emod_lt_of_pos _ hm0)

end
end Rc
set_option maxHeartbeats 4000000
namespace Rc
open PySem PySem.Spec PyProof.Rows L2
section
variable {P : Program} {w : World} {K : PySem.W.Frag} {mg : Str → Option Value} {base : Heap} {C D : Addr}
/-! the law's _law_closure, _law_claim -/
def spClosure : Sp := fun vs H Q _ => ∃ (a l : Addr) (xs : List V) (ds : List Deed) (S : List Int), vs = [.ref a, .ref l] ∧ H a = some (.tup xs) ∧ DsAt H xs ds ∧ H l = some (.lst (iV S)) ∧ S ≠ [] ∧ S.length ≤ 7 ∧ InR ds.length S ∧ ds.length ≤ 7 ∧ (∀ ws ∈ waitsL ds, InR ds.length ws) ∧ (∀ ws ∈ waitsL ds, Asc ws) ∧
  ∀ (H' : Hp) (p : Addr) (L : List Int), Same H H' → H' p = some (.tup (iV L)) → Asc L → (∀ x : Int, x ∈ L ↔ Reach (waitsL ds) S x) → Q (.ref p) H'
theorem waits_at {ds : List Deed} {i : Nat} {d : Deed} (h : ds[i]? = some d) : (waitsL ds)[i]? = some d.2.2 := by
  rw [List.getElem?_map, h]
  rfl
theorem c_l_closure {f : Addr} (T : Txt K w mg C D) (df : Df K mg "_law_closure" s_l_closure f)   : CalF P w K mg base 1 f "_law_closure" (spClosure) := by
  refine calF_of df sc_l_closure (fun vs H Q E h => ?_) (fun _ _ _ _ _ _ us hl => match us, hl with | [_, _], _ => rfl) (fun cdv A outer s H vs Q E hr h => ?_)
  · obtain ⟨a, l, xs, ds, S, rfl, _⟩ := h
    rfl
  · obtain ⟨a, l, xs, ds, S, rfl, ha, hd, hl, hS0, hS7, hSr, hn7, hWr, hWa, q⟩ := h
    refine ⟨_, (pss_cons (ps_set (i := 2) sc_l_closure.nd rfl (Or.inl rfl) (pe_callB (cr_sortedSet rfl) (by rfl) T.b_sorted bt_sorted (pa_cons (pe_callTy (cr_setL rfl) (by rfl) T.b_set bt_set (pa_cons (pv 1) pa_nil)) pa_nil))) (pss_cons (ps_for PassesOwn.never rfl (pi_range1 (by rfl) T.b_range (pa_cons (pe_callB call_len_seq (by rfl) T.b_len bt_len (pa_cons (pv 0) pa_nil)) pa_nil)) (pg_name (i := 3) sc_l_closure.nd rfl (Or.inl rfl)) (pss_cons (ps_set (i := 4) sc_l_closure.nd rfl (Or.inl rfl) (pe_callTy call_list_of (by rfl) T.b_list bt_list (pa_cons (pv 2) pa_nil))) (pss_cons (ps_for PassesOwn.never rfl (pi_list (pv 2)) (pg_name (i := 5) sc_l_closure.nd rfl (Or.inl rfl)) (pss_one (ps_set (i := 4) sc_l_closure.nd rfl (Or.inl rfl) (pe_op op_cat (pv 4) (pe_callTy call_list_of (by rfl) T.b_list bt_list (pa_cons (pe_ix ix_tup (pe_ix ix_tup (pv 0) (pv 5) (fun _ _ => rfl)) pe_int (fun _ _ => rfl)) pa_nil)))))) (pss_cons (ps_set (i := 6) sc_l_closure.nd rfl (Or.inl rfl) (pe_callB call_len_seq (by rfl) T.b_len bt_len (pa_cons (pv 2) pa_nil))) (pss_cons (ps_set (i := 2) sc_l_closure.nd rfl (Or.inl rfl) (pe_callB (cr_sortedSet rfl) (by rfl) T.b_sorted bt_sorted (pa_cons (pe_callTy (cr_setL rfl) (by rfl) T.b_set bt_set (pa_cons (pv 4) pa_nil)) pa_nil))) (pss_one (ps_if (pt_cmpR op_eq (pe_callB call_len_seq (by rfl) T.b_len bt_len (pa_cons (pv 2) pa_nil)) (pv 6) (nomark _)) (pss_one ps_break) pss_nil))))))) (pss_one (ps_ret (pe_callTy call_tuple_of (by rfl) T.b_tuple bt_tuple (pa_cons (pv 2) pa_nil)))))), ?_⟩
    have hln := hd.len
    refine ⟨_, rfl, l, S, rfl, SqL.of hl, Nat.lt_of_lt_of_le (by omega : S.length + 1 < 100) (by decide), fun sp c hsp hc => ⟨sp, _, c, rfl, upd_same, by omega, fun F0 p0 f1 f2 f3 hp0 => ?_⟩⟩
    have s1 := same_snew (o := .lst (iV F0)) (same_new (o := SetO w sp (fun j => decide (j ∈ S)) c) hsp) hp0
    have m0 : ∀ x : Int, x ∈ F0 ↔ x ∈ S := fun x => by
      rw [f2]
      exact decide_eq_true_iff
    have c0 : Clo (waitsL ds) S 0 F0 := ⟨f1, fun x hx => (m0 x).mpr hx, fun x hx => .base ((m0 x).mp hx), by
      obtain ⟨x, hx⟩ := List.exists_mem_of_ne_nil S hS0
      exact List.length_pos_of_mem ((m0 x).mpr hx)⟩
    have lW : (waitsL ds).length = ds.length := List.length_map ..
    refine ⟨_, rfl, a, xs, rfl, .inr (SqT.of (s1 _ _ ha)), _, rfl, by omega, by omega, for_range (fun i σ H' => ∃ (f : Addr) (F : List Int) (v3 v4 v5 v6 : Option V), σ = [some (.ref a), some (.ref l), some (.ref f), v3, v4, v5, v6] ∧ H' f = some (.lst (iV F)) ∧ Same H H' ∧ Clo (waitsL ds) S i F)
      ⟨p0, F0, _, _, _, _, rfl, upd_same, s1, c0⟩ ?_ ?_⟩
    · rintro i σ H1 hi ⟨f, F, v3, v4, v5, v6, rfl, hf, sH, cl⟩
      have hFr : InR ds.length F := fun x hx => (cl.r x hx).inR hSr hWr
      have hFn : F.length ≤ 7 := Nat.le_trans (inR_le cl.asc.nodup hFr) hn7
      refine ⟨_, rfl, f, iV F, rfl, .inl (SqL.of hf), fun m0 hm0 => ?_⟩
      have s2 := same_new (o := .lst (iV F)) hm0
      refine ⟨_, rfl, f, rfl, ⟨_, SqL.of (s2 _ _ hf)⟩, for_list (K := K) (a := f) (xs := iV F) (fun j σ H' => j ≤ F.length ∧ Same H1 H' ∧ ∃ (ml : Addr) (M : List Int) (v5 : Option V), σ = [some (.ref a), some (.ref l), some (.ref f), some (.int (0 + (i : Nat))), some (.ref ml), v5, v6] ∧ H' ml = some (.lst (iV M)) ∧ M.length ≤ F.length + 7 * j ∧ ∀ x : Int, x ∈ M ↔ x ∈ F ∨ ∃ d ∈ F.take j, ∃ ws, (waitsL ds)[d.toNat]? = some ws ∧ x ∈ ws)
        ⟨Nat.zero_le _, s2, m0, F, _, rfl, upd_same, by omega, fun x => ⟨.inl, fun h => h.elim (fun z => z) fun ⟨d, hd, _⟩ => by cases hd⟩⟩ (fun j σ H' _ p => SqL.of (p.2.1 _ _ hf)) ?_ ?_⟩
      · rintro j y σ H2 hj ⟨hjl, sj, ml, M, v5', rfl, hM, hMl, hMm⟩
        obtain ⟨z, hz, rfl⟩ := iV_get hj
        have hjl2 := (List.getElem?_eq_some_iff.mp hz).1
        have hzr := hFr z (List.mem_of_getElem? hz)
        obtain ⟨v, d, e1, e2, p, q2, rfl, hp, hq⟩ := hd.get (i := z.toNat) (by omega)
        have ez : ((z.toNat : Nat) : Int) = z := by omega
        have e1' : atI xs z = some (.ref p) := by
          have := atI_nat e1
          rw [ez] at this
          exact this
        have sHj := sH.trans sj
        have hdm : d.2.2 ∈ waitsL ds := List.mem_map_of_mem (f := fun d : Deed => d.2.2) (List.mem_of_getElem? e2)
        have hdl : d.2.2.length ≤ 7 := Nat.le_trans (inR_le (hWa _ hdm).nodup (hWr _ hdm)) hn7
        refine ⟨_, rfl, _, rfl, _, rfl, a, xs, z, .ref p, rfl, rfl, SqT.of (sHj _ _ ha), e1', p, _, 2, .ref q2, rfl, rfl, SqT.of (sHj _ _ hp), rfl, q2, _, rfl, .inr (SqT.of (sHj _ _ hq)), fun w1 hw1 => ?_⟩
        have hM2 := same_new (o := .lst (iV d.2.2)) hw1 _ _ hM
        refine ⟨ml, w1, _, _, rfl, rfl, hM2, upd_same, Nat.le_of_lt (sz_lt (by rw [iV_len, iV_len]; omega)), fun m2 hm2 => ?_⟩
        refine ⟨hjl2, same_snew (same_snew sj hw1) hm2, m2, M ++ d.2.2, _, rfl, by rw [upd_same, iV_app], by rw [List.length_append]; omega, fun x => ?_⟩
        have tk : F.take (j + 1) = F.take j ++ [z] := by
          rw [List.take_add_one, hz]
          rfl
        rw [List.mem_append, hMm, tk]
        constructor
        · rintro ((h | ⟨d', h1, ws, h2, h3⟩) | h)
          · exact .inl h
          · exact .inr ⟨d', List.mem_append_left _ h1, ws, h2, h3⟩
          · exact .inr ⟨z, List.mem_append_right _ (List.mem_singleton_self _), d.2.2, waits_at e2, h⟩
        · rintro (h | ⟨d', h1, ws, h2, h3⟩)
          · exact .inl (.inl h)
          · rcases List.mem_append.mp h1 with h1 | h1
            · exact .inl (.inr ⟨d', h1, ws, h2, h3⟩)
            · rw [List.mem_singleton.mp h1, waits_at e2] at h2
              cases h2
              exact .inr h3
      · rintro σ H2 ⟨_, sj, ml, M, v5', rfl, hM, hMl, hMm⟩
        rw [iV_len] at hMl
        have hMm2 : ∀ x : Int, x ∈ M ↔ x ∈ F ∨ ∃ d ∈ F, ∃ ws, (waitsL ds)[d.toNat]? = some ws ∧ x ∈ ws := fun x => by
          rw [hMm, iV_len, List.take_length]
        refine ⟨_, rfl, f, iV F, rfl, .inl (SqL.of (sj _ _ hf)), ?_⟩
        refine ⟨_, rfl, ml, M, rfl, SqL.of hM, Nat.lt_of_lt_of_le (by omega : M.length + 1 < 100) (by decide), fun sp2 c2 hsp2 hc2 => ⟨sp2, _, c2, rfl, upd_same, by omega, fun F' p' g1 g2 g3 hp' => ?_⟩⟩
        have sN := same_snew (o := .lst (iV F')) (same_snew (o := SetO w sp2 (fun j => decide (j ∈ M)) c2) (sH.trans sj) hsp2) hp'
        have mF : ∀ x : Int, x ∈ F' ↔ x ∈ F ∨ ∃ d ∈ F, ∃ ws, (waitsL ds)[d.toNat]? = some ws ∧ x ∈ ws := fun x => by
          rw [g2, decide_eq_true_iff, hMm2]
        refine ⟨_, rfl, p', iV F', rfl, .inl (SqL.of upd_same), _, rfl, rfl, _, rfl, ite2 (fun hb => ?_) (fun hb => ?_)⟩
        · have hl2 : F'.length = F.length := by
            have e0 := of_decide_eq_true hb
            injection e0 with e0
            rw [iV_len, iV_len] at e0
            omega
          refine ⟨_, rfl, p', _, rfl, .inl ⟨SqL.of upd_same, fun t ht => ?_⟩⟩
          exact q _ t F' (same_snew sN ht) upd_same g1 (cl.stop g1 mF hl2)
        · have hl2 : F'.length ≠ F.length := fun z => hb (decide_eq_true (by rw [iV_len, iV_len, z]))
          exact ⟨p', F', _, _, _, _, rfl, upd_same, sN, cl.next g1 mF hl2⟩
    · rintro σ H1 ⟨f, F, v3, v4, v5, v6, rfl, hf, sH, cl⟩
      exfalso
      have e : ((xs.length : Nat) : Int).toNat = ds.length := by omega
      rw [e] at cl
      exact cl.absurd hSr hWr
def spClaim : Sp := fun vs H Q _ => ∃ (a : Addr) (d : Nat) (xs : List V) (ds : List Deed), vs = [.ref a, .int (d : Nat)] ∧ H a = some (.tup xs) ∧ DsAt H xs ds ∧ d < ds.length ∧ ds.length ≤ 7 ∧ (∀ ws ∈ waitsL ds, InR ds.length ws) ∧ (∀ ws ∈ waitsL ds, Asc ws) ∧
  ∀ (H' : Hp) (p : Addr) (L : List Int), Same H H' → H' p = some (.tup (iV L)) → L.Nodup → InR ds.length L → Q (.ref p) H'
theorem c_l_claim {f : Addr} (T : Txt K w mg C D) (df : Df K mg "_law_claim" s_l_claim f) (c_l_closure : Cal P w K mg base 1 "_law_closure" (spClosure))  : CalF P w K mg base 2 f "_law_claim" (spClaim) := by
  refine calF_of df sc_l_claim (fun vs H Q E h => ?_) (fun _ _ _ _ _ _ us hl => match us, hl with | [_, _], _ => rfl) (fun cdv A outer s H vs Q E hr h => ?_)
  · obtain ⟨a, d, xs, ds, rfl, _⟩ := h
    rfl
  · obtain ⟨a, d, xs, ds, rfl, ha, hd, hdl, hn7, hWr, hWa, q⟩ := h
    refine ⟨_, (pss_cons (ps_if (pt_cmpR op_isN (pe_ix ix_tup (pe_ix ix_tup (pv 0) (pv 1) (fun _ _ => rfl)) pe_int (fun _ _ => rfl)) pe_non (nomark _)) (pss_one (ps_ret (pe_tup (pa_cons (pv 1) pa_nil)))) pss_nil) (pss_one (ps_ret (pe_u c_l_closure hr (by decide) (by rfl) (pa_cons (pv 0) (pa_cons (pe_listRg rfl (by rfl) T.b_list (prg_1 (by rfl) T.b_range (pe_op op_add (pv 1) pe_int))) pa_nil)))))), ?_⟩
    obtain ⟨v, e, e1, e2, p, q2, rfl, hp, hq⟩ := hd.get hdl
    refine ⟨_, rfl, _, rfl, a, xs, (d : Int), .ref p, rfl, rfl, SqT.of ha, atI_nat e1, p, _, 0, fV e.1, rfl, rfl, SqT.of hp, rfl, rfl, _, rfl, ?_⟩
    cases hf : e.1 with
    | none =>
      refine iteT ⟨_, rfl, sz1, fun t ht => q _ t [(d : Int)] (same_new ht) upd_same (by simp) fun x hx => ?_⟩
      rw [List.mem_singleton.mp hx]
      omega
    | some f =>
      refine iteF ⟨_, rfl, _, rfl, _, 1, rfl, rfl, _, rfl, RgOk.of_le (by omega) (by omega) (by omega) (by omega), fun l hl => ?_⟩
      rw [rg_eq (d + 1) _ (by omega)]
      have s1 := same_new (o := .lst (iV (rangeI (d + 1)))) hl
      have hSr : InR ds.length (rangeI (d + 1)) := fun x hx => by
        have := mem_rangeI.mp hx
        omega
      refine ⟨a, l, xs, ds, rangeI (d + 1), rfl, s1 _ _ ha, hd.same s1, upd_same, ?_, by rw [rangeI_length]; omega, hSr, hn7, hWr, hWa, fun H' p' L s' h' aL mL => q H' p' L (s1.trans s') h' aL.nodup fun x hx => ?_⟩
      · rw [range_last]
        simp
      · have lW : (waitsL ds).length = ds.length := List.length_map ..
        exact ((mL x).mp hx).inR hSr hWr

end
end Rc
set_option maxHeartbeats 4000000
namespace Rc
open PySem PySem.Spec PyProof.Rows L2
section
variable {P : Program} {w : World} {K : PySem.W.Frag} {mg : Str → Option Value} {base : Heap} {C D : Addr}
/-! the law's _law_load, _law_loads, _law_used -/
/-- deeds as the law lays them -/
structure Ld (head : Int) (ds : List Deed) : Prop where
  wf : WF head ds
  n7 : ds.length ≤ 7
  h : head ≤ 1000
  nd : ∀ d ∈ ds, d.2.1 ≤ 1000
theorem sum_le {b : Int} : ∀ {ns : List Int}, (∀ x ∈ ns, x ≤ b) → ns.sum ≤ b * (ns.length : Nat)
  | [], _ => by simp
  | x :: r, h => by
    have ih := sum_le (ns := r) (b := b) fun y hy => h y (List.mem_cons_of_mem _ hy)
    have h0 := h x (List.mem_cons_self ..)
    rw [List.sum_cons, List.length_cons]
    have e : b * ((r.length + 1 : Nat) : Int) = b * (r.length : Nat) + b := by
      rw [show ((r.length + 1 : Nat) : Int) = (r.length : Nat) + 1 from rfl, Int.mul_add, Int.mul_one]
    omega
def spLoad : Sp := fun vs H Q _ => ∃ (head : Int) (a : Addr) (d : Nat) (xs : List V) (ds : List Deed), vs = [.int head, .ref a, .int (d : Nat)] ∧ H a = some (.tup xs) ∧ DsAt H xs ds ∧ d < ds.length ∧ Ld head ds ∧
  ∀ (H' : Hp) (v : Int), Same H H' → v ≤ 8000 → Q (.int v) H'
theorem c_l_load {f : Addr} (T : Txt K w mg C D) (df : Df K mg "_law_load" s_l_load f) (c_l_claim : Cal P w K mg base 2 "_law_claim" (spClaim))  : CalF P w K mg base 3 f "_law_load" (spLoad) := by
  refine calF_of df sc_l_load (fun vs H Q E h => ?_) (fun _ _ _ _ _ _ us hl => match us, hl with | [_, _, _], _ => rfl) (fun cdv A outer s H vs Q E hr h => ?_)
  · obtain ⟨head, a, d, xs, ds, rfl, _⟩ := h
    rfl
  · obtain ⟨head, a, d, xs, ds, rfl, ha, hd, hdl, L, q⟩ := h
    refine ⟨_, (Evl.pss_cut (ps_set (i := 3) sc_l_load.nd rfl (Or.inl rfl) (pe_ifExp (pt_cmpR op_isN (pe_ix ix_tup (pe_ix ix_tup (pv 1) (pv 2) (fun _ _ => rfl)) pe_int (fun _ _ => rfl)) pe_non (nomark _)) pe_int (pe_op op_sub (pv 0) (pe_ix ix_tup (pe_ix ix_tup (pv 1) (pv 2) (fun _ _ => rfl)) pe_int (fun _ _ => rfl))))) (pss_one (ps_ret (pe_op op_add (pv 3) (pe_callB (cr_sum rfl) (by rfl) T.b_sum bt_sum (pa_cons (pe_lc rfl sc_l_load.nd (pi_tup (pe_u c_l_claim hr (by decide) (by rfl) (pa_cons (pv 1) (pa_cons (pv 2) pa_nil)))) (blkOk_by (own := [("_law_other", 4)]) (N := N_l_load) (sc := defScope s_l_load) (by decide +kernel)) (fun _ _ _ _ _ => (pg_name (i := 4) sc_l_load.nd rfl (Or.inl rfl))) (fun _ _ _ _ _ => pts_nil) (fun _ _ _ _ _ => (pe_ix (ixT_K K rfl) (pe_ix (ixT_K K rfl) (pv 1) (pv 4) (fun _ _ => rfl)) pe_int (fun _ _ => rfl)))) pa_nil)))))), ?_⟩
    obtain ⟨v, e, e1, e2, p, q2, rfl, hp, hq⟩ := hd.get hdl
    refine ⟨fun σ' H' => H' = H ∧ ∃ (u : Int) (v4 : Option V), σ' = [some (.int head), some (.ref a), some (.int (d : Int)), some (.int u), v4] ∧ u ≤ 1000, ?_, ?_⟩
    · refine ⟨_, rfl, _, rfl, a, xs, (d : Int), .ref p, rfl, rfl, SqT.of ha, atI_nat e1, p, _, 0, fV e.1, rfl, rfl, SqT.of hp, rfl, rfl, _, rfl, ?_⟩
      cases hf : e.1 with
      | none => exact iteT ⟨rfl, 0, _, rfl, by decide⟩
      | some f =>
        rw [hf] at hp
        have h0 := L.wf.fst d e f e2 hf
        have h1 := L.h
        refine iteF ⟨_, rfl, _, rfl, _, rfl, a, xs, (d : Int), .ref p, rfl, rfl, SqT.of ha, atI_nat e1, p, _, 0, .int f, rfl, rfl, SqT.of hp, rfl, head, f, rfl, rfl, rfl, _, _, rfl, by omega⟩
    · rintro σ H1 ⟨rfl, u, v4, rfl, hu⟩
      refine ⟨_, rfl, _, rfl, _, rfl, a, d, xs, ds, rfl, ha, hd, hdl, L.n7, L.wf.good.inr, L.wf.good.asc, fun H2 p2 Lc s2 hp2 hLn hLr => ?_⟩
      have hLl : Lc.length ≤ 7 := Nat.le_trans (inR_le hLn hLr) L.n7
      refine ⟨p2, rfl, ⟨_, SqT.of hp2⟩, fun Dl hDl => lc_tup (K := K) (a := p2) (xs := iV Lc) (fun i H' => i ≤ Lc.length ∧ Same H2 H' ∧ ∃ ns : List Int, H' Dl = some (.lst (iV ns)) ∧ ns.length = i ∧ ∀ x ∈ ns, x ≤ 1000)
        ⟨Nat.zero_le _, same_new hDl, [], upd_same, rfl, fun x hx => by cases hx⟩ (fun i H' _ z => SqT.of (z.2.1 _ _ hp2)) ?_ ?_⟩
      · rintro i x H3 hi ⟨hle, s3, ns, hD, hnl, hns⟩
        obtain ⟨z, hz, rfl⟩ := iV_get hi
        have hzr := hLr z (List.mem_of_getElem? hz)
        obtain ⟨v, e', e1', e2', p', q2', rfl, hp', hq'⟩ := hd.get (i := z.toNat) (by omega)
        have ez : ((z.toNat : Nat) : Int) = z := by omega
        have e3 : atI xs z = some (.ref p') := by
          have := atI_nat e1'
          rw [ez] at this
          exact this
        have s23 := s2.trans s3
        refine ⟨rfl, yes_ite ?_⟩
        refine ⟨_, rfl, _, rfl, a, xs, z, .ref p', rfl, rfl, SqT.of (s23 _ _ ha), e3, p', _, 1, .int e'.2.1, rfl, rfl, SqT.of (s23 _ _ hp'), rfl, iV ns, hD, sz_lt (by rw [iV_len]; omega), (List.getElem?_eq_some_iff.mp hz).1, same_upd s3 hDl, ns ++ [e'.2.1], by rw [upd_same, iV_app]; rfl, by rw [List.length_append, hnl]; rfl, fun y hy => ?_⟩
        rcases List.mem_append.mp hy with hy | hy
        · exact hns y hy
        · rw [List.mem_singleton.mp hy]
          exact L.nd e' (List.mem_of_getElem? e2')
      · rintro H3 ⟨hle, s3, ns, hD, hnl, hns⟩
        rw [iV_len] at hnl
        refine ⟨Dl, ns, rfl, SqL.of hD, u, _, rfl, rfl, q _ _ (s2.trans s3) ?_⟩
        have := sum_le hns
        have h7 : 1000 * ((ns.length : Nat) : Int) ≤ 7000 := by omega
        omega
def spLoads : Sp := fun vs H Q _ => ∃ (head : Int) (a : Addr) (xs : List V) (ds : List Deed), vs = [.int head, .ref a] ∧ H a = some (.tup xs) ∧ DsAt H xs ds ∧ Ld head ds ∧
  ∀ (H' : Hp) (p : Addr) (ns : List Int), Same H H' → H' p = some (.tup (iV ns)) → (∀ x ∈ ns, x ≤ 8000) → ns.length ≤ 7 → Q (.ref p) H'
theorem c_l_loads {f : Addr} (T : Txt K w mg C D) (df : Df K mg "_law_loads" s_l_loads f) (c_l_load : Cal P w K mg base 3 "_law_load" (spLoad))  : CalF P w K mg base 4 f "_law_loads" (spLoads) := by
  refine calF_of df sc_l_loads (fun vs H Q E h => ?_) (fun _ _ _ _ _ _ us hl => match us, hl with | [_, _], _ => rfl) (fun cdv A outer s H vs Q E hr h => ?_)
  · obtain ⟨head, a, xs, ds, rfl, _⟩ := h
    rfl
  · obtain ⟨head, a, xs, ds, rfl, ha, hd, L, q⟩ := h
    refine ⟨_, (pss_one (ps_ret (pe_callTy call_tuple_of (by rfl) T.b_tuple bt_tuple (pa_cons (pe_lc rfl sc_l_loads.nd (pi_range1 (by rfl) T.b_range (pa_cons (pe_callB call_len_seq (by rfl) T.b_len bt_len (pa_cons (pv 1) pa_nil)) pa_nil)) (blkOk_by (own := [("_law_deed", 2)]) (N := N_l_loads) (sc := defScope s_l_loads) (by decide +kernel)) (fun _ _ _ _ _ => (pg_name (i := 2) sc_l_loads.nd rfl (Or.inl rfl))) (fun _ _ _ _ _ => pts_nil) (fun _ _ _ _ _ => (pe_u c_l_load hr (by decide) (by rfl) (pa_cons (pv 0) (pa_cons (pv 1) (pa_cons (pv 2) pa_nil)))))) pa_nil)))), ?_⟩
    have hln := hd.len
    have h7 := L.n7
    refine ⟨_, rfl, a, xs, rfl, .inr (SqT.of ha), _, rfl, by omega, by omega, fun Dl hDl => lc_range (fun i H' => Same H H' ∧ H Dl = none ∧ ∃ ns : List Int, H' Dl = some (.lst (iV ns)) ∧ ns.length = i ∧ ∀ x ∈ ns, x ≤ 8000)
      ⟨same_new hDl, hDl, [], upd_same, rfl, fun x hx => by cases hx⟩ ?_ ?_⟩
    · rintro i H1 hi ⟨s1, hDl, ns, hD, hnl, hns⟩
      refine ⟨rfl, yes_ite ?_⟩
      refine ⟨_, rfl, _, rfl, _, rfl, head, a, i, xs, ds, by rw [Int.zero_add], s1 _ _ ha, hd.same s1, by omega, L, fun H2 v s2 hv => ?_⟩
      refine ⟨iV ns, s2 _ _ hD, sz_lt (by rw [iV_len]; omega), same_upd (s1.trans s2) hDl, hDl, ns ++ [v], by rw [upd_same, iV_app]; rfl, by rw [List.length_append, hnl]; rfl, fun y hy => ?_⟩
      rcases List.mem_append.mp hy with hy | hy
      · exact hns y hy
      · rw [List.mem_singleton.mp hy]
        exact hv
    · rintro H1 ⟨s1, hDl, ns, hD, hnl, hns⟩
      refine ⟨Dl, _, rfl, .inl ⟨SqL.of hD, fun t ht => q _ t ns (same_snew s1 ht) upd_same hns (by omega)⟩⟩
def spUsed : Sp := fun vs H Q _ => ∃ (head : Int) (a : Addr) (xs : List V) (ds : List Deed), vs = [.int head, .ref a] ∧ H a = some (.tup xs) ∧ DsAt H xs ds ∧ Ld head ds ∧
  ∀ (H' : Hp) (v : Int), Same H H' → (∀ (d : Deed) (f : Int), ds[0]? = some d → d.1 = some f → head - f ≤ v) → v ≤ 1000 → Q (.int v) H'
theorem c_l_used {f : Addr} (T : Txt K w mg C D) (df : Df K mg "_law_used" s_l_used f)   : CalF P w K mg base 1 f "_law_used" (spUsed) := by
  refine calF_of df sc_l_used (fun vs H Q E h => ?_) (fun _ _ _ _ _ _ us hl => match us, hl with | [_, _], _ => rfl) (fun cdv A outer s H vs Q E hr h => ?_)
  · obtain ⟨head, a, xs, ds, rfl, _⟩ := h
    rfl
  · obtain ⟨head, a, xs, ds, rfl, ha, hd, L, q⟩ := h
    refine ⟨_, (pss_cons (ps_setLc (i := 2) rfl sc_l_used.nd rfl rfl (sw_true rfl rfl rfl (by decide +kernel)) (pi_tup (pv 1)) (blkOk_by (own := [("_law_deed", 3)]) (N := N_l_used) (sc := defScope s_l_used) (by decide +kernel)) (fun _ _ _ _ _ => (pg_name (i := 3) sc_l_used.nd rfl (Or.inl rfl))) (fun _ _ _ _ _ => (pts_one (pt_cmpR op_notN (pe_ix (ixT_K K rfl) (pv 3) pe_int (fun _ _ => rfl)) pe_non (nomark _)))) (fun _ _ _ _ _ => (pe_ix (ixT_K K rfl) (pv 3) pe_int (fun _ _ => rfl)))) (pss_one (ps_ret (pe_ifExp (pt_cmpR op_gt (pe_callB call_len_seq (by rfl) T.b_len bt_len (pa_cons (pv 2) pa_nil)) pe_int (nomark _)) (pe_op op_sub (pv 0) (pe_callB (cr_min rfl) (by rfl) T.b_min bt_min (pa_cons (pv 2) pa_nil))) pe_int)))), ?_⟩
    have hln := hd.len
    have h7 := L.n7
    refine ⟨_, rfl, a, rfl, ⟨_, SqT.of ha⟩, fun Dl hDl => lc_tup (K := K) (a := a) (xs := xs) (fun i H' => i ≤ ds.length ∧ Same H H' ∧ ∃ ns : List Int, H' Dl = some (.lst (iV ns)) ∧ ns.length ≤ i ∧ (∀ x ∈ ns, 0 ≤ x) ∧ ∀ (d : Deed) (f : Int), 0 < i → ds[0]? = some d → d.1 = some f → f ∈ ns)
      ⟨Nat.zero_le _, same_new hDl, [], upd_same, Nat.le_refl _, (fun x hx => by cases hx), fun d f h => absurd h (Nat.lt_irrefl 0)⟩ (fun i H' _ z => SqT.of (z.2.1 _ _ ha)) ?_ ?_⟩
    · rintro i x H1 hi ⟨hle, s1, ns, hD, hnl, hns, hm⟩
      obtain ⟨d, e1, t, q2, rfl, e2, e3⟩ := hd.at_ i x hi
      have hil := (List.getElem?_eq_some_iff.mp e1).1
      refine ⟨rfl, ?_⟩
      refine ⟨_, rfl, t, _, 0, fV d.1, rfl, rfl, SqT.of (s1 _ _ e2), rfl, rfl, _, rfl, ?_⟩
      rw [fV_some]
      cases hs : d.1 with
      | none =>
        refine iteF ⟨hil, s1, ns, hD, by omega, hns, fun d0 f h0 h1 h2 => ?_⟩
        cases i with
        | zero =>
          rw [e1] at h1
          cases h1
          rw [hs] at h2
          cases h2
        | succ k => exact hm d0 f (Nat.succ_pos _) h1 h2
      | some f =>
        rw [hs] at e2
        refine iteT ⟨_, rfl, t, _, 0, .int f, rfl, rfl, SqT.of (s1 _ _ e2), rfl, iV ns, hD, sz_lt (by rw [iV_len]; omega), hil, same_upd s1 hDl, ns ++ [f], by rw [upd_same, iV_app]; rfl, by rw [List.length_append]; show ns.length + 1 ≤ i + 1; omega, fun y hy => ?_, fun d0 f0 h0 h1 h2 => ?_⟩
        · rcases List.mem_append.mp hy with hy | hy
          · exact hns y hy
          · rw [List.mem_singleton.mp hy]
            exact (L.wf.fst i d f e1 hs).1
        · cases i with
          | zero =>
            rw [e1] at h1
            cases h1
            rw [hs] at h2
            cases h2
            exact List.mem_append_right _ (List.mem_singleton_self _)
          | succ k => exact List.mem_append_left _ (hm d0 f0 (Nat.succ_pos _) h1 h2)
    · rintro H1 ⟨hle, s1, ns, hD, hnl, hns, hm⟩
      have hh := L.h
      have h00 := L.wf.h0
      refine ⟨_, rfl, Dl, _, rfl, .inl (SqL.of hD), _, 0, rfl, rfl, _, rfl, ite2 (fun hb => ?_) (fun hb => ?_)⟩
      · have hb2 : (0 : Int) < ((iV ns).length : Nat) := of_decide_eq_true hb
        rw [iV_len] at hb2
        refine ⟨_, rfl, _, rfl, Dl, ns, rfl, SqL.of hD, by omega, fun m h1 h2 => ⟨head, m, rfl, rfl, q _ _ s1 (fun d f e1 e2 => ?_) ?_⟩⟩
        · have h0 := (List.getElem?_eq_some_iff.mp e1).1
          have := h2 f (hm d f (by omega) e1 e2)
          omega
        · have := hns m h1
          omega
      · have hb2 : ¬ (0 : Int) < ((iV ns).length : Nat) := fun z => hb (decide_eq_true z)
        rw [iV_len] at hb2
        refine q _ 0 s1 (fun d f e1 e2 => ?_) (by decide)
        have h0 := (List.getElem?_eq_some_iff.mp e1).1
        have := List.length_pos_of_mem (hm d f (by omega) e1 e2)
        omega

end
end Rc
set_option maxHeartbeats 4000000
namespace Rc
open PySem PySem.Spec PyProof.Rows L2
section
variable {P : Program} {w : World} {K : PySem.W.Frag} {mg : Str → Option Value} {base : Heap} {C D : Addr}
/-! the law's _law_waits -/
theorem no_keep {H H' : Hp} {h b : Addr} {o : HO} (s : Same (No h H) (No h H')) (e : H b = some o) (ne : b ≠ h) : H' b = some o := by
  have := s b o (by rw [no_at ne]; exact e)
  rw [no_at ne] at this
  exact this
theorem no_upd {H H' : Hp} {h p : Addr} {o : HO} (s : Same (No h H) (No h H')) (hp : H p = none) : Same (No h H) (No h (upd H' p o)) := fun b u e => by
  have nb := no_ne e
  rw [no_at nb] at e
  have := no_keep s e nb
  rw [no_at nb, upd_ne (ne_of_none e hp)]
  exact this
theorem no_snew {H H' : Hp} {h p : Addr} {o : HO} (s : Same (No h H) (No h H')) (hp : H' p = none) : Same (No h H) (No h (upd H' p o)) := s.trans (no_new hp)
theorem HandC.ls {H : Hp} {h c : Addr} (x : HandC H h c) : ∃ l, H h = some (.lst l) := by
  obtain ⟨cs, p, b, s, n, h1, _⟩ := x
  exact ⟨_, h1⟩
theorem HandC.nn {H : Hp} {h c b : Addr} (x : HandC H h c) (e : H b = none) : b ≠ h := by
  obtain ⟨l, hl⟩ := x.ls
  exact (ne_of_none hl e).symm
theorem HandC.nc {H : Hp} {h c b : Addr} (x : HandC H h c) (e : H b = none) : b ≠ c := by
  obtain ⟨cs, p, b, s, n, h1, h2, _⟩ := x
  exact (ne_of_none h2 e).symm
theorem tup_ne {H : Hp} {h c b : Addr} {xs : List V} (x : HandC H h c) (e : H b = some (.tup xs)) : b ≠ h := by
  obtain ⟨l, hl⟩ := x.ls
  exact at_ne e hl nofun
theorem tup_keep {H H' : Hp} {h c b : Addr} {xs : List V} (x : HandC H h c) (s : Same (No h H) (No h H')) (e : H b = some (.tup xs)) : H' b = some (.tup xs) := no_keep s e (tup_ne x e)
theorem DeedAt.draw {H H' : Hp} {h c : Addr} {v : V} {d : Deed} (x : HandC H h c) (s : Same (No h H) (No h H')) (e : DeedAt H v d) : DeedAt H' v d := by
  obtain ⟨p, q, e1, h1, h2⟩ := e
  exact ⟨p, q, e1, tup_keep x s h1, tup_keep x s h2⟩
theorem DsAt.draw {H H' : Hp} {h c : Addr} {vs : List V} {ds : List Deed} (x : HandC H h c) (s : Same (No h H) (No h H')) (e : DsAt H vs ds) : DsAt H' vs ds := ⟨e.len, fun i v hi => by
  obtain ⟨d, e1, e2⟩ := e.at_ i v hi
  exact ⟨d, e1, e2.draw x s⟩⟩
theorem WsAt.draw {H H' : Hp} {h c : Addr} {vs : List V} {W : List (List Int)} (x : HandC H h c) (s : Same (No h H) (No h H')) (e : WsAt H vs W) : WsAt H' vs W := ⟨e.len, fun i v hi => by
  obtain ⟨ws, q, e1, e2, e3⟩ := e.at_ i v hi
  exact ⟨ws, q, e1, e2, tup_keep x s e3⟩⟩
theorem WsAt.wlst {H : Hp} {b : Addr} {l l' : List V} {vs : List V} {W : List (List Int)} (hb : H b = some (.lst l)) (e : WsAt H vs W) : WsAt (upd H b (.lst l')) vs W := ⟨e.len, fun i v hi => by
  obtain ⟨ws, q, e1, e2, e3⟩ := e.at_ i v hi
  exact ⟨ws, q, e1, e2, by rw [upd_ne (at_ne e3 hb nofun)]; exact e3⟩⟩
theorem WsAt.set {H : Hp} {vs : List V} {W : List (List Int)} {q : Addr} {ws : List Int} (h : WsAt H vs W) (i : Nat) (e : H q = some (.tup (iV ws))) : WsAt H (vs.set i (.ref q)) (W.set i ws) := by
  refine ⟨by rw [List.length_set, List.length_set, h.len], fun j x ex => ?_⟩
  by_cases z : i = j
  · subst z
    have hl : i < vs.length := by
      have z := (List.getElem?_eq_some_iff.mp ex).1
      rw [List.length_set] at z
      exact z
    rw [List.getElem?_set_self hl] at ex
    cases ex
    exact ⟨ws, q, List.getElem?_set_self (by rw [← h.len]; exact hl), rfl, e⟩
  · rw [List.getElem?_set_ne z] at ex
    obtain ⟨ws', q', e1, e2, e3⟩ := h.at_ j x ex
    exact ⟨ws', q', by rw [List.getElem?_set_ne z]; exact e1, e2, e3⟩
theorem sIx_nat {n d i : Nat} (h : i ≤ n) : HT.sIx n d (some (i : Int)) = i := by
  rw [HT.sIx_nat]
  omega
theorem cut_take {xs : List V} {i : Nat} (h : i ≤ xs.length) : cutV xs none (some (i : Int)) = xs.take i := by
  unfold cutV
  rw [sIx_nat h]
  show (xs.drop 0).take (i - 0) = _
  rw [List.drop_zero, Nat.sub_zero]
theorem rep_flat {α : Type} (n : Nat) (x : α) : (List.replicate n [x]).flatten = List.replicate n x := by
  induction n with
  | zero => rfl
  | succ k ih => rw [List.replicate_succ, List.flatten_cons, ih, List.replicate_succ]; rfl
theorem WsAt.rep {H : Hp} {e0 : Addr} (h : H e0 = some (.tup [])) (n : Nat) : WsAt H (List.replicate n (.ref e0)) (List.replicate n []) := by
  refine ⟨by rw [List.length_replicate, List.length_replicate], fun i v hi => ?_⟩
  obtain ⟨h1, h2⟩ := List.getElem?_eq_some_iff.mp hi
  rw [List.getElem_replicate] at h2
  rw [List.length_replicate] at h1
  exact ⟨[], e0, by rw [List.getElem?_replicate, if_pos h1], h2.symm, h⟩
theorem erase_perm : ∀ {l : List Int} {k : Nat} (h : k < l.length), (l[k] :: l.eraseIdx k).Perm l
  | x :: r, 0, _ => List.Perm.refl _
  | x :: r, k + 1, h => by
    have hk : k < r.length := by simpa using h
    exact (List.Perm.swap x (r[k]'hk) (r.eraseIdx k)).trans ((erase_perm hk).cons x)
theorem iV_erase : ∀ (l : List Int) (k : Nat), (iV l).eraseIdx k = iV (l.eraseIdx k)
  | [], _ => rfl
  | x :: r, 0 => rfl
  | x :: r, k + 1 => by
    show V.int x :: (iV r).eraseIdx k = V.int x :: iV (r.eraseIdx k)
    rw [iV_erase r k]
theorem idx_take {O : List Int} (hn : O.Nodup) {i : Nat} {y : Int} (h : y ∈ O.take i) : O.idxOf y < i := by
  obtain ⟨j, hj, e⟩ := List.mem_take_iff_getElem.mp h
  have hj2 : j < O.length := by omega
  have e2 : O[j]? = some y := by rw [List.getElem?_eq_getElem hj2, e]
  have := posOf_get hn e2
  unfold posOf at this
  omega
/-- waits that no deed stands in a ring of -/
structure WOk (n : Nat) (W : List (List Int)) : Prop where
  len : W.length = n
  ok : ∀ ws ∈ W, Asc ws ∧ InR n ws
  nr : NoRing W
def spWaits : Sp := fun vs H Q _ => ∃ (h c : Addr) (n : Nat) (share : Int), vs = [.ref h, .int (n : Nat), .int share] ∧ HandC H h c ∧ n ≤ 7 ∧ 0 < share ∧ share < 1073741824 ∧
  ∀ (H' : Hp) (p : Addr) (ys : List V) (W : List (List Int)), HandC H' h c → Same (No h H) (No h H') → H' p = some (.lst ys) → p ≠ h → WsAt H' ys W → WOk n W → Q (.ref p) H'
theorem c_l_waits {f : Addr} (T : Txt K w mg C D) (df : Df K mg "_law_waits" s_l_waits f) (c_l_draw : Cal P w K mg base 1 "_law_draw" (spDraw))  : CalF P w K mg base 2 f "_law_waits" (spWaits) := by
  refine calF_of df sc_l_waits (fun vs H Q E h => ?_) (fun _ _ _ _ _ _ us hl => match us, hl with | [_, _, _], _ => rfl) (fun cdv A outer s H vs Q E hr h => ?_)
  · obtain ⟨h, c, n, share, rfl, _⟩ := h
    rfl
  · obtain ⟨h, c, n, share, rfl, hH, hn7, sh0, sh1, q⟩ := h
    refine ⟨_, (pss_cons (ps_set (i := 3) sc_l_waits.nd rfl (Or.inr rfl) (pe_listRg rfl (by rfl) T.b_list (prg_1 (by rfl) T.b_range (pv 1)))) (pss_cons (ps_setLc (i := 4) rfl sc_l_waits.nd rfl rfl (sw_true rfl rfl rfl (by decide +kernel)) (pi_range1 (by rfl) T.b_range (pa_cons (pv 1) pa_nil)) (blkOk_by (own := [("_law_turn", 8)]) (N := N_l_waits) (sc := defScope s_l_waits) (by decide +kernel)) (fun _ _ _ _ _ => (pg_name (i := 8) sc_l_waits.nd rfl (Or.inl rfl))) (fun _ _ _ _ _ => pts_nil) (fun _ _ _ _ _ => (pe_bmK K rfl PySem.F.plainAttrs_list PySem.F.slot_list_pop PySem.F.type_list_pop mt_popAt (pv 3) (pa_cons (pe_u c_l_draw hr (by decide) (by rfl) (pa_cons (pv 0) (pa_cons (pe_callB (len_K K rfl) (by rfl) T.b_len bt_len (pa_cons (pv 3) pa_nil)) pa_nil))) pa_nil)))) (pss_cons (ps_set (i := 5) sc_l_waits.nd rfl (Or.inl rfl) (pe_op op_rep (pe_lst (pa_cons (pe_tup pa_nil) pa_nil)) (pv 1))) (pss_cons (ps_for PassesOwn.never rfl (pi_enum (by rfl) T.b_enumerate (pa_cons (pv 4) pa_nil)) (pg_tup (by rfl) (pgs_cons (pg_name (i := 6) sc_l_waits.nd rfl (Or.inl rfl)) (pgs_cons (pg_name (i := 7) sc_l_waits.nd rfl (Or.inl rfl)) pgs_nil))) (pss_one (ps_asg (pe_callTy call_tuple_of (by rfl) T.b_tuple bt_tuple (pa_cons (pe_callB cr_sortedI (by rfl) T.b_sorted bt_sorted (pa_cons (pe_lc rfl sc_l_waits.nd (pi_list (pe_slice sl_list (pv 4) po_none (po_some (pv 6)))) (blkOk_by (own := [("_law_other", 9)]) (N := N_l_waits) (sc := defScope s_l_waits) (by decide +kernel)) (fun _ _ _ _ _ => (pg_name (i := 9) sc_l_waits.nd rfl (Or.inl rfl))) (fun _ _ _ _ _ => (pts_one (pt_cmpR op_eq (pe_u c_l_draw hr (by decide) (by rfl) (pa_cons (pv 0) (pa_cons (pv 2) pa_nil))) pe_int (nomark _)))) (fun _ _ _ _ _ => (pv 9))) pa_nil)) pa_nil)) (pg_sub (pv 5) (pv 7) set_list)))) (pss_one (ps_ret (pv 5))))))), ?_⟩
    refine ⟨_, rfl, _, rfl, RgOk.of_le (by omega) (by omega) (by omega) (by omega), fun lf hlf => ?_⟩
    rw [rg_eq n _ rfl]
    have hlfh := hH.nn hlf
    have hlfc := hH.nc hlf
    have s1 := same_new (o := .lst (iV (rangeI n))) hlf
    have hH1 := hH.same s1
    refine ⟨_, rfl, _, rfl, by omega, by omega, fun Dl hDl => lc_range (fun i H' => HandC H' h c ∧ Same (No h H) (No h H') ∧ ∃ L O : List Int, H' lf = some (.lst (iV L)) ∧ H' Dl = some (.lst (iV O)) ∧ (O ++ L).Perm (rangeI n) ∧ O.length = i)
      ?_ ?_ ?_⟩
    · exact ⟨hH1.same (same_new hDl), no_snew (no_new hlf) hDl, rangeI n, [], same_new hDl _ _ upd_same, upd_same, by rw [List.nil_append], rfl⟩
    · have hDl0 : H Dl = none := Same.free s1 hDl
      have hDlh := hH1.nn hDl
      have hDlc := hH1.nc hDl
      have hlD : lf ≠ Dl := ne_of_none upd_same hDl
      rintro i H1 hi ⟨hH1, s1, L, O, hL, hO, hp, hOl⟩
      have hlen := hp.length_eq
      rw [List.length_append, rangeI_length] at hlen
      have hi2 : i < n := by omega
      refine ⟨rfl, yes_ite ?_⟩
      refine ⟨_, rfl, .inl ⟨rfl, _, SqL.of hL⟩, _, rfl, _, rfl, lf, iV L, rfl, .inl (SqL.of hL), h, c, _, rfl, hH1, by rw [iV_len]; omega, by rw [iV_len]; omega, fun H2 r hH2 s2 r0 r1 => ?_⟩
      rw [iV_len] at r1
      obtain ⟨k, rfl⟩ : ∃ k : Nat, r = (k : Int) := ⟨r.toNat, by omega⟩
      have hk : k < L.length := by omega
      have hL2 := no_keep s2 hL hlfh
      have hO2 := no_keep s2 hO hDlh
      refine ⟨lf, iV L, (k : Int), k, .int L[k], rfl, rfl, hL2, by omega, by omega, (ixN_seq (ixN_nat (by rw [iV_len]; exact hk))).1, by rw [List.getElem?_map, List.getElem?_eq_getElem hk]; rfl, ?_⟩
      refine ⟨iV O, by rw [upd_ne hlD.symm]; exact hO2, sz_lt (by rw [iV_len]; omega), ?_⟩
      refine ⟨?_, no_upd (no_upd (s1.trans s2) hlf) hDl0, L.eraseIdx k, O ++ [L[k]], ?_, by rw [upd_same, iV_app]; rfl, ?_, by rw [List.length_append, hOl]; rfl⟩
      · exact (hH2.upd hlfh hlfc).upd hDlh hDlc
      · rw [upd_ne hlD, upd_same, iV_erase]
      · refine List.Perm.trans ?_ hp
        rw [List.append_assoc]
        refine List.Perm.append_left O ?_
        exact erase_perm hk
    · have hDl0 : H Dl = none := Same.free s1 hDl
      have hDlh := hH1.nn hDl
      have hDlc := hH1.nc hDl
      rintro H1 ⟨hH1, s1, L, O, hL, hO, hp, hOl⟩
      have hp2 : O.Perm (rangeI n) := by
        have hlen := hp.length_eq
        rw [List.length_append, rangeI_length] at hlen
        have e : L = [] := List.length_eq_zero_iff.mp (by omega)
        rw [e, List.append_nil] at hp
        exact hp
      have hOn : O.Nodup := hp2.nodup_iff.mpr (asc_range n).nodup
      have hOr : InR n O := fun x hx => mem_rangeI.mp (hp2.mem_iff.mp hx)
      refine ⟨Nat.zero_le _, fun e0 he0 => ⟨sz1, fun l0 hl0 => ⟨_, rfl, l0, n, [.ref e0], rfl, rfl, upd_same, by omega, by omega, Nat.le_of_lt (sz_lt (by show 1 * ((n : Nat) : Int).toNat < 100000; omega)), fun fl hfl => ?_⟩⟩⟩
      have hH2 := (hH1.same (same_new (o := .tup []) he0)).same (same_new (o := .lst [.ref e0]) hl0)
      have s2 := no_snew (o := .lst (List.replicate ((n : Nat) : Int).toNat [V.ref e0]).flatten) (no_snew (o := .lst [.ref e0]) (no_snew (o := .tup []) s1 he0) hl0) hfl
      have hH3 := hH2.same (same_new (o := .lst (List.replicate ((n : Nat) : Int).toNat [V.ref e0]).flatten) hfl)
      have hflh := hH2.nn hfl
      have hflc := hH2.nc hfl
      have hO3 := same_new (o := .lst (List.replicate ((n : Nat) : Int).toNat [V.ref e0]).flatten) hfl _ _ (same_new (o := .lst [.ref e0]) hl0 _ _ (same_new (o := .tup []) he0 _ _ hO))
      have he3 := same_new (o := .lst (List.replicate ((n : Nat) : Int).toNat [V.ref e0]).flatten) hfl _ _ (same_new (o := .lst [.ref e0]) hl0 _ _ (upd_same (H := H1) (a := e0) (o := .tup [])))
      have hDf : Dl ≠ fl := ne_of_none (same_new (o := .lst [.ref e0]) hl0 _ _ (same_new (o := .tup []) he0 _ _ hO)) hfl
      have hfl0 : H fl = none := by
        cases e : H fl with
        | none => rfl
        | some o =>
          have := no_keep (no_snew (o := .lst [.ref e0]) (no_snew (o := .tup []) s1 he0) hl0) e hflh
          rw [hfl] at this
          cases this
      have erep : (List.replicate ((n : Nat) : Int).toNat [V.ref e0]).flatten = List.replicate n (.ref e0) := by
        rw [Int.toNat_natCast, rep_flat]
      refine ⟨_, rfl, Dl, iV O, rfl, SqL.of hO3, for_it (walk_enum (xs := iV O)) (fun i σ H' => i ≤ n ∧ HandC H' h c ∧ Same (No h H) (No h H') ∧ H' Dl = some (.lst (iV O)) ∧ ∃ (ys : List V) (W : List (List Int)) (v6 v7 v8 v9 : Option V), σ = [some (.ref h), some (.int (n : Nat)), some (.int share), some (.ref lf), some (.ref Dl), some (.ref fl), v6, v7, v8, v9] ∧
          H' fl = some (.lst ys) ∧ WsAt H' ys W ∧ W.length = n ∧ ∀ (k : Nat) (ws : List Int), W[k]? = some ws → Asc ws ∧ InR n ws ∧ ∀ y ∈ ws, O.idxOf y < O.idxOf (k : Int))
        ⟨Nat.zero_le _, hH3, s2, hO3, _, List.replicate n [], _, _, _, _, rfl, upd_same, by rw [erep] at he3 ⊢; exact WsAt.rep he3 n, List.length_replicate .., fun k ws hk => ?_⟩ (fun i σ H' _ z => SqL.of z.2.2.2.1) ?_ ?_⟩
      · obtain ⟨h1, h2⟩ := List.getElem?_eq_some_iff.mp hk
        rw [List.getElem_replicate] at h2
        rw [← h2]
        exact ⟨List.Pairwise.nil, (fun x hx => by cases hx), fun x hx => by cases hx⟩
      · rintro i x σ H4 H5 hi ⟨hin, hH4, s4, hD4, ys, W, v6, v7, v8, v9, rfl, hf4, hW4, hWl, hWk⟩ ⟨T1, y, v, rfl, hT, rfl, e1, e2⟩
        cases e1
        obtain ⟨z, hz, rfl⟩ := iV_get e2
        have hil : i < O.length := (List.getElem?_eq_some_iff.mp hz).1
        have hOl2 : O.length = n := by rw [hp2.length_eq, rangeI_length]
        have hzr := hOr z (List.mem_of_getElem? hz)
        have sT := same_new (o := .tup [.int (i : Nat), .int z]) hT
        have hH5 := hH4.same sT
        refine ⟨T1, _, rfl, SqT.of upd_same, rfl, _, _, rfl, _, _, rfl, rfl, ?_⟩
        refine ⟨_, rfl, _, rfl, _, rfl, Dl, iV O, rfl, SqL.of (sT _ _ hD4), fun p hp => ?_⟩
        rw [cut_take (by rw [iV_len]; omega), iV_take]
        have hH6 := hH5.same (same_new (o := .lst (iV (O.take i))) hp)
        have hph := hH5.nn hp
        have hpc := hH5.nc hp
        refine ⟨p, rfl, ⟨_, SqL.of upd_same⟩, fun D2 hD2 => lc_list (K := K) (a := p) (xs := iV (O.take i)) (fun j H' => HandC H' h c ∧ Same (No h (upd (upd H4 T1 (.tup [.int (i : Nat), .int z])) p (.lst (iV (O.take i))))) (No h H') ∧ ∃ M : List Int, H' D2 = some (.lst (iV M)) ∧ M.Sublist ((O.take i).take j))
          ⟨hH6.same (same_new hD2), no_new hD2, [], upd_same, List.nil_sublist _⟩ (fun j H' _ q => SqL.of (no_keep q.2.1 upd_same hph)) ?_ ?_⟩
        · have hD2h := hH6.nn hD2
          have hD2c := hH6.nc hD2
          rintro j x H7 hj ⟨hH7, s7, M, hM, hMs⟩
          obtain ⟨u, hu, rfl⟩ := iV_get hj
          have tk : (O.take i).take (j + 1) = (O.take i).take j ++ [u] := by
            rw [List.take_add_one, hu]
            rfl
          have hMl : M.length ≤ 7 := by
            have := hMs.length_le
            rw [List.length_take, List.length_take] at this
            omega
          refine ⟨rfl, ?_⟩
          refine ⟨_, rfl, _, rfl, h, c, share, rfl, hH7, sh0, sh1, fun H8 r hH8 s8 r0 r1 => ⟨rfl, _, rfl, ?_⟩⟩
          have hM8 := no_keep s8 hM hD2h
          refine ite2 (fun hb => ?_) (fun hb => ?_)
          · refine ⟨_, rfl, iV M, hM8, sz_lt (by rw [iV_len]; omega), hH8.upd hD2h hD2c, no_upd (s7.trans s8) hD2, M ++ [u], by rw [upd_same, iV_app]; rfl, ?_⟩
            rw [tk]
            exact hMs.append (List.Sublist.refl _)
          · refine ⟨hH8, s7.trans s8, M, hM8, ?_⟩
            rw [tk]
            exact hMs.trans (List.sublist_append_left _ _)
        · rintro H7 ⟨hH7, s7, M, hM, hMs⟩
          rw [iV_len, List.take_length] at hMs
          refine ⟨D2, M, rfl, SqL.of hM, fun ns p3 n1 n2 hp3 => ⟨p3, _, rfl, .inl ⟨SqL.of upd_same, fun p4 hp4 => ?_⟩⟩⟩
          have s37 := no_snew (o := .tup (iV ns)) (no_snew (o := .lst (iV ns)) s7 hp3) hp4
          have s47 : Same (No h H4) (No h (upd (upd H7 p3 (.lst (iV ns))) p4 (.tup (iV ns)))) := ((no_new hT).trans (no_new hp)).trans s37
          have hH8 := (hH7.same (same_new (o := .lst (iV ns)) hp3)).same (same_new (o := .tup (iV ns)) hp4)
          have hf8 := no_keep s47 hf4 hflh
          have hD8 := no_keep s47 hD4 hDlh
          have hW8 := hW4.draw hH4 s47
          have hMn : M.Nodup := hMs.nodup (hOn.sublist (List.take_sublist _ _))
          have en : ns = isort M := isort_eq n1 n2
          have nsa : Asc ns := by
            rw [en]
            exact isort_asc hMn
          have nsm : ∀ y ∈ ns, y ∈ O.take i := fun y hy => hMs.subset (n1.mem_iff.mp hy)
          have ez : ((z.toNat : Nat) : Int) = z := by omega
          have hzi : O.idxOf z = i := by
            have := posOf_get hOn hz
            unfold posOf at this
            omega
          have hyl : ys.length = n := by rw [hW4.len, hWl]
          refine ⟨_, rfl, _, rfl, fl, ys, z, z.toNat, rfl, rfl, hf8, ?_, ?_⟩
          · have := ixN_nat (n := ys.length) (d := z.toNat) (by omega)
            rw [ez] at this
            exact this
          refine ⟨by omega, hH8.upd hflh hflc, no_upd (s4.trans s47) hfl0, by rw [upd_ne hDf]; exact hD8, ys.set z.toNat (.ref p4), W.set z.toNat ns, _, _, _, _, rfl, upd_same, ?_, by rw [List.length_set]; exact hWl, fun k ws hk => ?_⟩
          · exact WsAt.wlst hf8 (hW8.set z.toNat upd_same)
          · by_cases e : z.toNat = k
            · subst e
              rw [List.getElem?_set_self (by omega)] at hk
              cases hk
              refine ⟨nsa, fun y hy => hOr y (List.mem_of_mem_take (nsm y hy)), fun y hy => ?_⟩
              rw [ez, hzi]
              exact idx_take hOn (nsm y hy)
            · rw [List.getElem?_set_ne e] at hk
              exact hWk k ws hk
      · rintro σ H4 ⟨hin, hH4, s4, hD4, ys, W, v6, v7, v8, v9, rfl, hf4, hW4, hWl, hWk⟩
        refine ⟨_, rfl, q H4 fl ys W hH4 s4 hf4 hflh hW4 ⟨hWl, fun ws hws => ?_, ?_⟩⟩
        · obtain ⟨k, hk⟩ := List.mem_iff_getElem?.mp hws
          exact ⟨(hWk k ws hk).1, (hWk k ws hk).2.1⟩
        · refine noRing_rank (rk := fun x => O.idxOf x) (fun ws hws y hy => ?_) fun k ws hk y hy => (hWk k ws hk).2.2 y hy
          obtain ⟨k, hk⟩ := List.mem_iff_getElem?.mp hws
          exact ((hWk k ws hk).2.1 y hy).1

end
end Rc
set_option maxHeartbeats 4000000
namespace Rc
open PySem PySem.Spec PyProof.Rows L2
section
variable {P : Program} {w : World} {K : PySem.W.Frag} {mg : Str → Option Value} {base : Heap} {C D : Addr}
/-! the law's _law_deeds, _law_parts -/
theorem no_free {H H' : Hp} {h b : Addr} (s : Same (No h H) (No h H')) (e : H' b = none) (ne : b ≠ h) : H b = none := by
  cases z : H b with
  | none => rfl
  | some o =>
    have := no_keep s z ne
    rw [e] at this
    cases this
theorem pick_at {xs : List Int} {r : Int} (h0 : 0 ≤ r) (h1 : r < (xs.length : Nat)) : ∃ x ∈ xs, atI (iV xs) r = some (.int x) := by
  have hk : r.toNat < xs.length := by omega
  have e : ((r.toNat : Nat) : Int) = r := by omega
  refine ⟨xs[r.toNat], List.getElem_mem hk, ?_⟩
  have := atI_nat (xs := iV xs) (j := r.toNat) (v := .int xs[r.toNat]) (by rw [List.getElem?_map, List.getElem?_eq_getElem hk]; rfl)
  rw [e] at this
  exact this
theorem atI_nat0 {α : Type} {xs : List α} {j : Nat} {v : α} (h : xs[j]? = some v) : atI xs (0 + (j : Int)) = some v := by
  rw [Int.zero_add]
  exact atI_nat h
theorem DsAt.wlst {H : Hp} {b : Addr} {l l' : List V} {vs : List V} {ds : List Deed} (hb : H b = some (.lst l)) (e : DsAt H vs ds) : DsAt (upd H b (.lst l')) vs ds := ⟨e.len, fun i v hi => by
  obtain ⟨d, e1, p, q, e2, e3, e4⟩ := e.at_ i v hi
  exact ⟨d, e1, p, q, e2, by rw [upd_ne (at_ne e3 hb nofun)]; exact e3, by rw [upd_ne (at_ne e4 hb nofun)]; exact e4⟩⟩
/-- the firsts that the law lays -/
structure Fs (b : Int) (fs : List (Option Int)) (hd : Int) : Prop where
  some_ : ∀ (j : Nat) (o : Option Int), fs[j]? = some o → (o.isSome = true ↔ (j : Int) < b)
  rng : ∀ (j : Nat) (f : Int), fs[j]? = some (some f) → 0 ≤ f ∧ f < hd
  asc : ∀ (j k : Nat) (f g : Int), j < k → fs[j]? = some (some f) → fs[k]? = some (some g) → f < g
theorem snoc_get {α : Type} {l : List α} {x y : α} {j : Nat} (h : (l ++ [x])[j]? = some y) : (j < l.length ∧ l[j]? = some y) ∨ (j = l.length ∧ y = x) := by
  by_cases hj : j < l.length
  · rw [List.getElem?_append_left hj] at h
    exact .inl ⟨hj, h⟩
  · have h1 := (List.getElem?_eq_some_iff.mp h).1
    rw [List.length_append, List.length_singleton] at h1
    have e : j = l.length := by omega
    subst e
    rw [List.getElem?_append_right (Nat.le_refl _), Nat.sub_self] at h
    exact .inr ⟨rfl, (Option.some.inj h).symm⟩
theorem Fs.yes {b : Int} {fs : List (Option Int)} {hd r : Int} (F : Fs b fs hd) (h0 : 0 ≤ hd) (hr : 0 ≤ r) (hb : (fs.length : Int) < b) : Fs b (fs ++ [some hd]) (hd + (1 + r)) where
  some_ := fun j o h => by
    rcases snoc_get h with ⟨h1, h2⟩ | ⟨h1, h2⟩
    · exact F.some_ j o h2
    · rw [h1, h2]
      exact ⟨fun _ => hb, fun _ => rfl⟩
  rng := fun j f h => by
    rcases snoc_get h with ⟨h1, h2⟩ | ⟨h1, h2⟩
    · have := F.rng j f h2
      omega
    · cases h2
      omega
  asc := fun j k f g hjk h1 h2 => by
    rcases snoc_get h2 with ⟨a1, a2⟩ | ⟨a1, a2⟩
    · rcases snoc_get h1 with ⟨b1, b2⟩ | ⟨b1, b2⟩
      · exact F.asc j k f g hjk b2 a2
      · omega
    · rcases snoc_get h1 with ⟨b1, b2⟩ | ⟨b1, b2⟩
      · cases a2
        exact (F.rng j f b2).2
      · omega
theorem Fs.no {b : Int} {fs : List (Option Int)} {hd : Int} (F : Fs b fs hd) (hb : ¬ (fs.length : Int) < b) : Fs b (fs ++ [none]) hd where
  some_ := fun j o h => by
    rcases snoc_get h with ⟨h1, h2⟩ | ⟨h1, h2⟩
    · exact F.some_ j o h2
    · rw [h1, h2]
      exact ⟨fun z => (by cases z), fun z => absurd z hb⟩
  rng := fun j f h => by
    rcases snoc_get h with ⟨h1, h2⟩ | ⟨h1, h2⟩
    · exact F.rng j f h2
    · cases h2
  asc := fun j k f g hjk h1 h2 => by
    rcases snoc_get h2 with ⟨a1, a2⟩ | ⟨a1, a2⟩
    · rcases snoc_get h1 with ⟨b1, b2⟩ | ⟨b1, b2⟩
      · exact F.asc j k f g hjk b2 a2
      · omega
    · cases a2
theorem wok_rep (n : Nat) : WOk n (List.replicate n []) where
  len := List.length_replicate ..
  ok := fun ws h => by
    rw [(List.mem_replicate.mp h).2]
    exact ⟨List.Pairwise.nil, fun x hx => by cases hx⟩
  nr := noRing_rank (rk := fun _ => 0) (fun ws h y hy => by
    rw [(List.mem_replicate.mp h).2] at hy
    cases hy) fun i ws h y hy => by
    have := List.mem_of_getElem? h
    rw [(List.mem_replicate.mp this).2] at hy
    cases hy
def mkDs (n : Nat) (fs : List (Option Int)) (ns : List Int) (W : List (List Int)) : List Deed := (List.range n).map fun i => (fs.getD i none, ns.getD i 0, W.getD i [])
theorem mkDs_len (n : Nat) (fs : List (Option Int)) (ns : List Int) (W : List (List Int)) : (mkDs n fs ns W).length = n := by
  unfold mkDs
  rw [List.length_map, List.length_range]
theorem mkDs_get {n i : Nat} {fs : List (Option Int)} {ns : List Int} {W : List (List Int)} (h : i < n) : (mkDs n fs ns W)[i]? = some (fs.getD i none, ns.getD i 0, W.getD i []) := by
  unfold mkDs
  rw [List.getElem?_map, List.getElem?_range h]
  rfl
theorem mkDs_waits {n : Nat} {fs : List (Option Int)} {ns : List Int} {W : List (List Int)} (h : W.length = n) : waitsL (mkDs n fs ns W) = W := by
  refine List.ext_getElem? fun i => ?_
  rw [List.getElem?_map]
  by_cases hi : i < n
  · rw [mkDs_get hi]
    show some (W.getD i []) = W[i]?
    rw [List.getD_eq_getElem?_getD, List.getElem?_eq_getElem (l := W) (by omega)]
    rfl
  · rw [List.getElem?_eq_none (by rw [mkDs_len]; omega), List.getElem?_eq_none (by omega)]
    rfl
theorem ld_mk {n : Nat} {b hd : Int} {fs : List (Option Int)} {ns : List Int} {W : List (List Int)} (hn : n ≤ 7) (hb : b ≤ n) (hfs : fs.length = n) (hns : ns.length = n) (F : Fs b fs hd) (h0 : 0 ≤ hd) (h1 : hd ≤ 1000) (hnd : ∀ x ∈ ns, 0 ≤ x ∧ x ≤ 100) (w : WOk n W) : Ld hd (mkDs n fs ns W) := by
  have lt : ∀ {i : Nat} {d : Deed}, (mkDs n fs ns W)[i]? = some d → i < n ∧ d = (fs.getD i none, ns.getD i 0, W.getD i []) := fun {i d} h => by
    have hi := (List.getElem?_eq_some_iff.mp h).1
    rw [mkDs_len] at hi
    rw [mkDs_get hi] at h
    exact ⟨hi, (Option.some.inj h).symm⟩
  have fg : ∀ {i : Nat}, i < n → fs[i]? = some (fs.getD i none) := fun {i} hi => by
    rw [List.getD_eq_getElem?_getD, List.getElem?_eq_getElem (by omega)]
    rfl
  have wW := mkDs_waits (fs := fs) (ns := ns) w.len
  have nd : ∀ d ∈ mkDs n fs ns W, 0 ≤ d.2.1 ∧ d.2.1 ≤ 100 := fun d hd => by
    obtain ⟨i, hi⟩ := List.mem_iff_getElem?.mp hd
    obtain ⟨h1, rfl⟩ := lt hi
    have e : ns[i]? = some (ns.getD i 0) := by
      rw [List.getD_eq_getElem?_getD, List.getElem?_eq_getElem (by omega)]
      rfl
    exact hnd _ (List.mem_of_getElem? e)
  refine ⟨⟨h0, Int.le_trans h1 (by decide), ⟨b.toNat, by rw [mkDs_len]; omega, fun i d h => ?_⟩, fun i d f h hf => ?_, fun i j d e f g hij h1 h2 hf hg => ?_, fun d hd => ?_, ⟨?_, ?_, rangeI n, by rw [rangeI_length]; omega, ?_⟩, ?_, by rw [mkDs_len]; omega⟩, by rw [mkDs_len]; exact hn, h1, fun d hd => ?_⟩
  · obtain ⟨hi, rfl⟩ := lt h
    rw [F.some_ i _ (fg hi)]
    omega
  · obtain ⟨hi, rfl⟩ := lt h
    refine F.rng i f ?_
    rw [fg hi]
    exact congrArg some hf
  · obtain ⟨hi, rfl⟩ := lt h1
    obtain ⟨hj, rfl⟩ := lt h2
    refine F.asc i j f g hij ?_ ?_
    · rw [fg hi]
      exact congrArg some hf
    · rw [fg hj]
      exact congrArg some hg
  · have := nd d hd
    exact ⟨this.1, Int.le_trans this.2 (by decide)⟩
  · rw [wW, mkDs_len]
    exact fun ws h => (w.ok ws h).2
  · rw [wW]
    exact fun ws h => (w.ok ws h).1
  · rw [wW]
    exact fun ws h x hx => mem_rangeI.mpr ((w.ok ws h).2 x hx)
  · rw [wW]
    exact w.nr
  · have := nd d hd
    omega
def spDeeds : Sp := fun vs H Q _ => ∃ (h c : Addr) (n : Nat) (most share : Int), vs = [.ref h, .int (n : Nat), .int most, .int share] ∧ HandC H h c ∧ n ≤ 7 ∧ 0 < most ∧ most ≤ 100 ∧ 0 ≤ share ∧ share < 1073741824 ∧
  ∀ (H' : Hp) (p q : Addr) (ys : List V) (ds : List Deed) (head : Int), HandC H' h c → Same (No h H) (No h H') → H' p = some (.tup [.int head, .ref q]) → H' q = some (.tup ys) → DsAt H' ys ds → Ld head ds → Q (.ref p) H'
theorem c_l_deeds {f : Addr} (T : Txt K w mg C D) (df : Df K mg "_law_deeds" s_l_deeds f) (c_l_draw : Cal P w K mg base 1 "_law_draw" (spDraw)) (c_l_waits : Cal P w K mg base 2 "_law_waits" (spWaits))  : CalF P w K mg base 3 f "_law_deeds" (spDeeds) := by
  refine calF_of df sc_l_deeds (fun vs H Q E h => ?_) (fun _ _ _ _ _ _ us hl => match us, hl with | [_, _, _, _], _ => rfl) (fun cdv A outer s H vs Q E hr h => ?_)
  · obtain ⟨h, c, n, most, share, rfl, _⟩ := h
    rfl
  · obtain ⟨h, c, n, most, share, rfl, hH, hn7, m0, m1, sh0, sh1, q⟩ := h
    refine ⟨_, (pss_cons (ps_set (i := 4) sc_l_deeds.nd rfl (Or.inl rfl) (pe_op op_sub (pv 1) (pe_ix ix_list (pe_lst (pa_cons pe_int (pa_cons pe_int (pa_cons pe_int (pa_cons pe_int pa_nil))))) (pe_u c_l_draw hr (by decide) (by rfl) (pa_cons (pv 0) (pa_cons pe_int pa_nil))) (fun _ _ => rfl)))) (pss_cons (ps_set (i := 5) sc_l_deeds.nd rfl (Or.inl rfl) (pe_u c_l_draw hr (by decide) (by rfl) (pa_cons (pv 0) (pa_cons pe_int pa_nil)))) (pss_cons (ps_set (i := 6) sc_l_deeds.nd rfl (Or.inr rfl) (pe_lst pa_nil)) (pss_cons (ps_for PassesOwn.never rfl (pi_range1 (by rfl) T.b_range (pa_cons (pv 1) pa_nil)) (pg_name (i := 7) sc_l_deeds.nd rfl (Or.inl rfl)) (pss_cons (ps_expr (pe_bm PySem.F.plainAttrs_list PySem.F.slot_list_append PySem.F.type_list_append mt_append (pv 6) (pa_cons (pe_ifExp (pt_cmpR op_lt (pv 7) (pv 4) (nomark _)) (pv 5) pe_non) pa_nil))) (pss_one (ps_set (i := 5) sc_l_deeds.nd rfl (Or.inl rfl) (pe_op op_add (pv 5) (pe_ifExp (pt_cmpR op_lt (pv 7) (pv 4) (nomark _)) (pe_op op_add pe_int (pe_u c_l_draw hr (by decide) (by rfl) (pa_cons (pv 0) (pa_cons (pv 2) pa_nil)))) pe_int)))))) (Evl.pss_cut (ps_set (i := 8) sc_l_deeds.nd rfl (Or.inr rfl) (pe_ifExp (pt_cmpR op_gt (pv 3) pe_int (nomark _)) (pe_u c_l_waits hr (by decide) (by rfl) (pa_cons (pv 0) (pa_cons (pv 1) (pa_cons (pv 3) pa_nil)))) (pe_op op_rep (pe_lst (pa_cons (pe_tup pa_nil) pa_nil)) (pv 1)))) (pss_cons (ps_set (i := 9) sc_l_deeds.nd rfl (Or.inr rfl) (pe_lc rfl sc_l_deeds.nd (pi_range1 (by rfl) T.b_range (pa_cons (pv 1) pa_nil)) (blkOk_by (own := [("_law_deed", 7)]) (N := N_l_deeds) (sc := defScope s_l_deeds) (by decide +kernel)) (fun _ _ _ _ _ => (pg_name (i := 7) sc_l_deeds.nd rfl (Or.inl rfl))) (fun _ _ _ _ _ => pts_nil) (fun _ _ _ _ _ => (pe_u c_l_draw hr (by decide) (by rfl) (pa_cons (pv 0) (pa_cons (pv 2) pa_nil)))))) (pss_one (ps_ret (pe_tup (pa_cons (pv 5) (pa_cons (pe_callTy call_tuple_of (by rfl) T.b_tuple bt_tuple (pa_cons (pe_lc rfl sc_l_deeds.nd (pi_range1 (by rfl) T.b_range (pa_cons (pv 1) pa_nil)) (blkOk_by (own := [("_law_deed", 7)]) (N := N_l_deeds) (sc := defScope s_l_deeds) (by decide +kernel)) (fun _ _ _ _ _ => (pg_name (i := 7) sc_l_deeds.nd rfl (Or.inl rfl))) (fun _ _ _ _ _ => pts_nil) (fun _ _ _ _ _ => (pe_tup (pa_cons (pe_ix (ixL_K K rfl) (pv 6) (pv 7) (fun _ _ => rfl)) (pa_cons (pe_ix (ixL_K K rfl) (pv 9) (pv 7) (fun _ _ => rfl)) (pa_cons (pe_ix (ixL_K K rfl) (pv 8) (pv 7) (fun _ _ => rfl)) pa_nil)))))) pa_nil)) pa_nil))))))))))), ?_⟩
    refine ⟨_, rfl, sz4, fun l1 hl1 => ?_⟩
    have hl1h := hH.nn hl1
    have hH1 := hH.same (same_new (o := .lst [.int 0, .int 0, .int 1, .int 2]) hl1)
    refine ⟨_, rfl, h, c, 4, rfl, hH1, by decide, by decide, fun H2 r hH2 s2 r0 r1 => ?_⟩
    obtain ⟨x, hx, hxa⟩ := pick_at (xs := [0, 0, 1, 2]) r0 r1
    have hx0 : 0 ≤ x := by
      simp at hx
      omega
    have s02 := (no_new (h := h) (o := .lst [.int 0, .int 0, .int 1, .int 2]) hl1).trans s2
    refine ⟨l1, _, r, .int x, rfl, rfl, SqL.of (no_keep s2 upd_same hl1h), hxa, (n : Int), x, rfl, rfl, ?_⟩
    refine ⟨_, rfl, h, c, 5, rfl, hH2, by decide, by decide, fun H3 hd hH3 s3 d0 d1 => ?_⟩
    refine ⟨Nat.zero_le _, fun fl hfl => ?_⟩
    have s03 := s02.trans s3
    have hflh := hH3.nn hfl
    have hflc := hH3.nc hfl
    have hfl0 := no_free s03 hfl hflh
    refine ⟨_, rfl, _, rfl, by omega, by omega, for_range (fun i σ H' => HandC H' h c ∧ Same (No h H) (No h H') ∧ ∃ (fs : List (Option Int)) (hd : Int) (v7 v8 v9 : Option V), σ = [some (.ref h), some (.int (n : Nat)), some (.int most), some (.int share), some (.int ((n : Int) - x)), some (.int hd), some (.ref fl), v7, v8, v9] ∧
        H' fl = some (.lst (fs.map fV)) ∧ fs.length = i ∧ 0 ≤ hd ∧ hd ≤ 5 + 100 * (i : Int) ∧ Fs ((n : Int) - x) fs hd)
      ⟨hH3.same (same_new hfl), no_upd s03 hfl0, [], hd, _, _, _, rfl, upd_same, rfl, d0, by omega, ⟨fun j o h => by simp at h, fun j f h => by simp at h, fun j k f g _ h => by simp at h⟩⟩ ?_ ?_⟩
    · rintro i σ H4 hi ⟨hH4, s4, fs, hd, v7, v8, v9, rfl, hf4, hfl4, hd0, hd1, F⟩
      refine ⟨_, rfl, .inl ⟨rfl, _, SqL.of hf4⟩, _, rfl, _, rfl, _, _, rfl, rfl, _, rfl, ite2 (fun hb => ?_) (fun hb => ?_)⟩
      · have hb2 : (0 + (i : Int)) < (n : Int) - x := of_decide_eq_true hb
        refine ⟨_, rfl, fl, _, _, rfl, rfl, hf4, sz_lt (by rw [List.length_map]; omega), ?_⟩
        refine ⟨_, rfl, _, rfl, _, rfl, _, _, rfl, rfl, true, congrArg V.bl hb, iteT ?_⟩
        refine ⟨_, rfl, _, rfl, h, c, most, rfl, hH4.upd hflh hflc, m0, by omega, fun H5 r5 hH5 s5 r50 r51 => ?_⟩
        refine ⟨1, r5, rfl, rfl, hd, _, rfl, rfl, hH5, (no_upd s4 hfl0).trans s5, fs ++ [some hd], hd + (1 + r5), _, _, _, rfl, ?_, by rw [List.length_append, hfl4]; rfl, by omega, by omega, F.yes hd0 r50 (by omega)⟩
        rw [no_keep s5 upd_same hflh, List.map_append]
        rfl
      · have hb2 : ¬ (0 + (i : Int)) < (n : Int) - x := fun z => hb (decide_eq_true z)
        refine ⟨fl, _, _, rfl, rfl, hf4, sz_lt (by rw [List.length_map]; omega), ?_⟩
        refine ⟨_, rfl, _, rfl, _, rfl, _, _, rfl, rfl, false, congrArg V.bl (Bool.eq_false_iff.mpr hb), iteF ?_⟩
        refine ⟨hd, 0, rfl, rfl, hH4.upd hflh hflc, no_upd s4 hfl0, fs ++ [none], hd + 0, _, _, _, rfl, ?_, by rw [List.length_append, hfl4]; rfl, by omega, by omega, by rw [Int.add_zero]; exact F.no (by omega)⟩
        rw [upd_same, List.map_append]
        rfl
    · rintro σ H4 ⟨hH4, s4, fs, hd, v7, v8, v9, rfl, hf4, hfl4, hd0, hd1, F⟩
      rw [Int.toNat_natCast] at hfl4 hd1
      have hd2 : hd ≤ 1000 := by omega
      refine ⟨fun σ' H' => HandC H' h c ∧ Same (No h H) (No h H') ∧ ∃ (wl : Addr) (ys : List V) (W : List (List Int)), σ' = [some (.ref h), some (.int (n : Nat)), some (.int most), some (.int share), some (.int ((n : Int) - x)), some (.int hd), some (.ref fl), v7, some (.ref wl), v9] ∧
        H' fl = some (.lst (fs.map fV)) ∧ H' wl = some (.lst ys) ∧ wl ≠ h ∧ WsAt H' ys W ∧ WOk n W, ?_, ?_⟩
      · refine ⟨_, rfl, _, _, rfl, rfl, _, rfl, ite2 (fun hb => ?_) (fun hb => ?_)⟩
        · have hb2 : (0 : Int) < share := of_decide_eq_true hb
          refine ⟨_, rfl, _, rfl, _, rfl, h, c, n, share, rfl, hH4, hn7, hb2, sh1, fun H5 wl ys W hH5 s5 hwl hwlh hW ok => ?_⟩
          exact ⟨hH5, s4.trans s5, wl, ys, W, rfl, no_keep s5 hf4 hflh, hwl, hwlh, hW, ok⟩
        · refine ⟨Nat.zero_le _, fun e0 he0 => ⟨sz1, fun l0 hl0 => ⟨_, rfl, l0, n, [.ref e0], rfl, rfl, upd_same, by omega, by omega, Nat.le_of_lt (sz_lt (by show 1 * ((n : Nat) : Int).toNat < 100000; omega)), fun wl hwl => ?_⟩⟩⟩
          have hH5 := (hH4.same (same_new (o := .tup []) he0)).same (same_new (o := .lst [.ref e0]) hl0)
          have sx := ((same_new (o := .tup []) he0).trans (same_new (o := .lst [.ref e0]) hl0)).trans (same_new (o := .lst (List.replicate ((n : Nat) : Int).toNat [V.ref e0]).flatten) hwl)
          have he5 := same_new (o := .lst (List.replicate ((n : Nat) : Int).toNat [V.ref e0]).flatten) hwl _ _ (same_new (o := .lst [.ref e0]) hl0 _ _ (upd_same (H := H4) (a := e0) (o := .tup [])))
          have erep : (List.replicate ((n : Nat) : Int).toNat [V.ref e0]).flatten = List.replicate n (.ref e0) := by
            rw [Int.toNat_natCast, rep_flat]
          refine ⟨hH4.same sx, s4.trans (same_no sx h), wl, List.replicate n (.ref e0), List.replicate n [], rfl, sx _ _ hf4, by rw [upd_same, erep], hH5.nn hwl, WsAt.rep he5 n, wok_rep n⟩
      · rintro σ H5 ⟨hH5, s5, wl, ys, W, rfl, hf5, hw5, hwlh, hW5, ok⟩
        refine ⟨_, rfl, _, rfl, by omega, by omega, fun Dn hDn => lc_range (fun i H' => HandC H' h c ∧ Same (No h H5) (No h H') ∧ ∃ ns : List Int, H' Dn = some (.lst (iV ns)) ∧ ns.length = i ∧ ∀ x ∈ ns, 0 ≤ x ∧ x ≤ 100)
          ⟨hH5.same (same_new hDn), no_new hDn, [], upd_same, rfl, fun x hx => by cases hx⟩ ?_ ?_⟩
        · have hDnh := hH5.nn hDn
          have hDnc := hH5.nc hDn
          rintro i H6 hi ⟨hH6, s6, ns, hns, hnl, hnr⟩
          refine ⟨rfl, yes_ite ?_⟩
          refine ⟨_, rfl, _, rfl, h, c, most, rfl, hH6, m0, by omega, fun H7 r7 hH7 s7 r70 r71 => ?_⟩
          refine ⟨iV ns, no_keep s7 hns hDnh, sz_lt (by rw [iV_len]; omega), hH7.upd hDnh hDnc, no_upd (s6.trans s7) hDn, ns ++ [r7], by rw [upd_same, iV_app]; rfl, by rw [List.length_append, hnl]; rfl, fun y hy => ?_⟩
          rcases List.mem_append.mp hy with hy | hy
          · exact hnr y hy
          · rw [List.mem_singleton.mp hy]
            omega
        · have hDnh := hH5.nn hDn
          rintro H6 ⟨hH6, s6, ns, hns, hnl, hnr⟩
          rw [Int.toNat_natCast] at hnl
          have hf6 := no_keep s6 hf5 hflh
          have hw6 := no_keep s6 hw5 hwlh
          have hW6 := hW5.draw hH5 s6
          have L := ld_mk hn7 (by omega : (n : Int) - x ≤ n) hfl4 hnl F hd0 hd2 hnr ok
          refine ⟨_, rfl, _, rfl, _, rfl, by omega, by omega, fun Dd hDd => lc_range (fun i H' => Same H6 H' ∧ ∃ zs : List V, H' Dd = some (.lst zs) ∧ DsAt H' zs ((mkDs n fs ns W).take i))
            ⟨same_new hDd, [], upd_same, DsAt.nil⟩ ?_ ?_⟩
          · rintro i H7 hi ⟨s7, zs, hz, hzd⟩
            rw [Int.toNat_natCast] at hi
            have gf : (fs.map fV)[i]? = some (fV (fs.getD i none)) := by
              rw [List.getElem?_map, List.getD_eq_getElem?_getD, List.getElem?_eq_getElem (by omega)]
              rfl
            have gn : (iV ns)[i]? = some (.int (ns.getD i 0)) := by
              rw [List.getElem?_map, List.getD_eq_getElem?_getD, List.getElem?_eq_getElem (by omega)]
              rfl
            obtain ⟨ws, qw, g1, g2, g3⟩ := hW6.get (i := i) (by rw [ok.len]; exact hi)
            have gw : W.getD i [] = ws := by
              rw [List.getD_eq_getElem?_getD, g1]
              rfl
            refine ⟨rfl, yes_ite ?_⟩
            refine ⟨_, rfl, _, rfl, fl, _, _, _, rfl, rfl, SqL.of (s7 _ _ hf6), atI_nat0 gf, _, rfl, _, rfl, Dn, _, _, _, rfl, rfl, SqL.of (s7 _ _ hns), atI_nat0 gn, _, rfl, _, rfl, wl, _, _, _, rfl, rfl, SqL.of (s7 _ _ hw6), atI_nat0 g2, sz3, fun tp htp => ?_⟩
            have s8 := same_new (o := .tup [fV (fs.getD i none), .int (ns.getD i 0), .ref qw]) htp
            refine ⟨zs, s8 _ _ hz, sz_lt ?_, same_upd (s7.trans s8) hDd, _, upd_same, ?_⟩
            · have := hzd.len
              rw [List.length_take, mkDs_len] at this
              omega
            rw [List.take_add_one, mkDs_get hi]
            refine DsAt.wlst (s8 _ _ hz) ((hzd.same s8).snoc ⟨tp, qw, rfl, upd_same, ?_⟩)
            show upd H7 tp _ qw = some (.tup (iV (W.getD i [])))
            rw [gw]
            exact s8 _ _ (s7 _ _ g3)
          · rintro H7 ⟨s7, zs, hz, hzd⟩
            rw [Int.toNat_natCast] at hzd
            have et : (mkDs n fs ns W).take n = mkDs n fs ns W := List.take_of_length_le (by rw [mkDs_len]; exact Nat.le_refl _)
            rw [et] at hzd
            refine ⟨Dd, _, rfl, .inl ⟨SqL.of hz, fun tq htq => ⟨sz2, fun tp htp => ?_⟩⟩⟩
            have s8 := (same_new (o := .tup zs) htq).trans (same_new (o := .tup [.int hd, .ref tq]) htp)
            exact q _ tp tq zs (mkDs n fs ns W) hd (hH6.same (s7.trans s8)) ((s5.trans s6).trans (same_no (s7.trans s8) h)) upd_same (same_new htp _ _ upd_same) (hzd.same s8) L
def spParts : Sp := fun vs H Q _ => ∃ (h c : Addr) (n : Nat) (most share : Int), vs = [.ref h, .int (n : Nat), .int most, .int share] ∧ HandC H h c ∧ n ≤ 7 ∧ 0 < most ∧ most ≤ 100 ∧ 0 ≤ share ∧ share < 1073741824 ∧
  ∀ (H' : Hp) (p q : Addr) (ys : List V) (ds : List Deed) (head cells : Int), HandC H' h c → Same (No h H) (No h H') → H' p = some (.tup [.int cells, .int head, .ref q]) → H' q = some (.tup ys) → DsAt H' ys ds → Ld head ds → 1 ≤ cells → cells ≤ 100000 → Room0 cells head ds → Q (.ref p) H'
theorem max3 (a b c : Int) : ∃ z, nuMax3 (.int a) (.int b) (.int c) = some (.int z) ∧ a ≤ z ∧ b ≤ z ∧ c ≤ z ∧ (z = a ∨ z = b ∨ z = c) := by
  have e2 : ∀ x y : Int, ∃ z, nuMax2 (.int x) (.int y) = some (.int z) ∧ x ≤ z ∧ y ≤ z ∧ (z = x ∨ z = y) := fun x y => by
    show ∃ z, (some (decide (x < y))).map (fun c => if c = true then V.int y else V.int x) = some (.int z) ∧ _
    rw [Option.map_some]
    by_cases h : x < y
    · exact ⟨y, by rw [decide_eq_true h, if_pos rfl], by omega, by omega, .inr rfl⟩
    · exact ⟨x, by rw [decide_eq_false h, if_neg (by decide)], by omega, by omega, .inl rfl⟩
  obtain ⟨m, h1, h2, h3, h4⟩ := e2 a b
  obtain ⟨z, g1, g2, g3, g4⟩ := e2 m c
  refine ⟨z, ?_, by omega, by omega, by omega, by omega⟩
  unfold nuMax3
  rw [h1, Option.bind_some, g1]
theorem c_l_parts {f : Addr} (T : Txt K w mg C D) (df : Df K mg "_law_parts" s_l_parts f) (c_l_draw : Cal P w K mg base 1 "_law_draw" (spDraw)) (c_l_deeds : Cal P w K mg base 3 "_law_deeds" (spDeeds)) (c_l_used : Cal P w K mg base 1 "_law_used" (spUsed)) (c_l_loads : Cal P w K mg base 4 "_law_loads" (spLoads))  : CalF P w K mg base 5 f "_law_parts" (spParts) := by
  refine calF_of df sc_l_parts (fun vs H Q E h => ?_) (fun _ _ _ _ _ _ us hl => match us, hl with | [_, _, _, _], _ => rfl) (fun cdv A outer s H vs Q E hr h => ?_)
  · obtain ⟨h, c, n, most, share, rfl, _⟩ := h
    rfl
  · obtain ⟨h, c, n, most, share, rfl, hH, hn7, m0, m1, sh0, sh1, q⟩ := h
    refine ⟨_, (pss_cons (ps_asg (pe_u c_l_deeds hr (by decide) (by rfl) (pa_cons (pv 0) (pa_cons (pv 1) (pa_cons (pv 2) (pa_cons (pv 3) pa_nil))))) (pg_tup (by rfl) (pgs_cons (pg_name (i := 4) sc_l_parts.nd rfl (Or.inl rfl)) (pgs_cons (pg_name (i := 5) sc_l_parts.nd rfl (Or.inl rfl)) pgs_nil)))) (pss_cons (ps_set (i := 6) sc_l_parts.nd rfl (Or.inl rfl) (pe_op op_add (pe_callB (cr_max rfl) (by rfl) T.b_max bt_max (pa_cons (pe_op op_cat (pe_lst (pa_cons pe_int (pa_cons (pe_u c_l_used hr (by decide) (by rfl) (pa_cons (pv 4) (pa_cons (pv 5) pa_nil))) pa_nil))) (pe_callTy call_list_of (by rfl) T.b_list bt_list (pa_cons (pe_u c_l_loads hr (by decide) (by rfl) (pa_cons (pv 4) (pa_cons (pv 5) pa_nil))) pa_nil))) pa_nil)) (pe_ix ix_list (pe_lst (pa_cons pe_int (pa_cons pe_int (pa_cons pe_int (pa_cons pe_int (pa_cons (pe_un un_neg pe_int) (pa_cons (pe_un un_neg pe_int) pa_nil))))))) (pe_u c_l_draw hr (by decide) (by rfl) (pa_cons (pv 0) (pa_cons pe_int pa_nil))) (fun _ _ => rfl)))) (pss_one (ps_ret (pe_tup (pa_cons (pe_callB (call_max3Nu rfl) (by rfl) T.b_max bt_max (pa_cons pe_int (pa_cons (pe_u c_l_used hr (by decide) (by rfl) (pa_cons (pv 4) (pa_cons (pv 5) pa_nil))) (pa_cons (pv 6) pa_nil)))) (pa_cons (pv 4) (pa_cons (pv 5) pa_nil)))))))), ?_⟩
    refine ⟨_, rfl, _, rfl, _, rfl, _, rfl, h, c, n, most, share, rfl, hH, hn7, m0, m1, sh0, sh1, fun H1 p1 q1 ys ds head hH1 s1 hp1 hq1 hd1 L => ?_⟩
    refine ⟨p1, _, rfl, SqT.of hp1, rfl, _, _, rfl, _, _, rfl, rfl, ?_⟩
    refine ⟨_, rfl, _, rfl, head, q1, ys, ds, rfl, hq1, hd1, L, fun H2 u s2 hu1 hu2 => ⟨sz2, fun l1 hl1 => ?_⟩⟩
    have s12 := s2.trans (same_new (o := .lst [.int 1, .int u]) hl1)
    refine ⟨_, rfl, _, rfl, head, q1, ys, ds, rfl, s12 _ _ hq1, hd1.same s12, L, fun H3 p3 ns s3 hp3 hns hnl => ?_⟩
    refine ⟨p3, _, rfl, .inr (SqT.of hp3), fun l2 hl2 => ?_⟩
    have s4 := same_new (o := .lst (iV ns)) hl2
    refine ⟨l1, l2, [.int 1, .int u], iV ns, rfl, rfl, s4 _ _ (s3 _ _ upd_same), upd_same, Nat.le_of_lt (sz_lt (by rw [iV_len]; show 2 + ns.length < 100000; omega)), fun l3 hl3 => ?_⟩
    have s5 := same_new (o := .lst ([.int 1, .int u] ++ iV ns)) hl3
    have s15 := ((s12.trans s3).trans s4).trans s5
    have hH5 := hH1.same s15
    refine ⟨l3, 1 :: u :: ns, rfl, SqL.of upd_same, by simp, fun m hm1 hm2 => ?_⟩
    refine ⟨1, rfl, 2, rfl, (by decide : 6 ≤ sizeLine), fun l4 hl4 => ?_⟩
    have s6 := same_new (o := .lst (iV [0, 0, 1, 3, -1, -2])) hl4
    have hl4h := hH5.nn hl4
    refine ⟨_, rfl, h, c, 6, rfl, hH5.same s6, by decide, by decide, fun H7 r hH7 s7 r0 r1 => ?_⟩
    obtain ⟨x, hx, hxa⟩ := pick_at (xs := [0, 0, 1, 3, -1, -2]) r0 r1
    have hx3 : x ≤ 3 := by
      simp at hx
      omega
    have s17 := (same_no (s15.trans s6) h).trans s7
    refine ⟨l4, iV [0, 0, 1, 3, -1, -2], r, .int x, rfl, rfl, SqL.of (no_keep s7 upd_same hl4h), hxa, m, x, rfl, rfl, ?_⟩
    have hq7 := tup_keep hH1 s17 hq1
    have hd7 := hd1.draw hH1 s17
    refine ⟨_, rfl, _, rfl, head, q1, ys, ds, rfl, hq7, hd7, L, fun H8 u' s8 hu1' hu2' => ?_⟩
    obtain ⟨z, z1, z2, z3, z4, z5⟩ := max3 1 u' (m + x)
    refine ⟨_, rfl, _, _, _, _, rfl, z1, _, rfl, _, rfl, sz3, fun p9 hp9 => ?_⟩
    have s9 := s8.trans (same_new (o := .tup [.int z, .int head, .ref q1]) hp9)
    have hm3 : m ≤ 8000 := by
      rcases List.mem_cons.mp hm1 with e | hm
      · omega
      · rcases List.mem_cons.mp hm with e | hm
        · omega
        · exact hns m hm
    exact q _ p9 q1 ys ds head z (hH7.same s9) ((s1.trans s17).trans (same_no s9 h)) upd_same (s9 _ _ hq7) (hd7.same s9) L z2 (by omega) fun d f e1 e2 => Int.le_trans (hu1' d f e1 e2) z3

end
end Rc
set_option maxHeartbeats 4000000
namespace Rc
open PySem PySem.Spec PyProof.Rows L2
section
variable {P : Program} {w : World} {K : PySem.W.Frag} {mg : Str → Option Value} {base : Heap} {C D : Addr}
/-! the law's _law_numbered, _law_aged, _law_behind -/
theorem idx_first {l : List Int} {x : Int} : ∀ m : Nat, m < l.idxOf x → l[m]? ≠ some x := by
  induction l with
  | nil => intro m h; simp at h
  | cons y r ih =>
    intro m h
    by_cases e : y = x
    · subst e
      rw [List.idxOf_cons_self] at h
      omega
    · have hb : (y == x) = false := by simpa using e
      rw [List.idxOf_cons, hb] at h
      cases m with
      | zero =>
        intro z
        exact e (Option.some.inj z)
      | succ k =>
        have h2 : k < r.idxOf x := by
          simp at h
          omega
        exact ih k h2
theorem c_l_numbered {f : Addr} (T : Txt K w mg C D) (df : Df K mg "_law_numbered" s_l_numbered f)   : CalF P w K mg base 1 f "_law_numbered" (spRenum) := by
  refine calF_of df sc_l_numbered (fun vs H Q E h => ?_) (fun _ _ _ _ _ _ us hl => match us, hl with | [_, _], _ => rfl) (fun cdv A outer s H vs Q E hr h => ?_)
  · obtain ⟨a, o, xs, ds, order, rfl, _⟩ := h
    rfl
  · obtain ⟨a, o, xs, ds, order, rfl, ha, hd, ho, hnd, hir, hl, hwl, q⟩ := h
    refine ⟨_, (pss_cons (ps_set (i := 2) sc_l_numbered.nd rfl (Or.inl rfl) (pe_lst pa_nil)) (pss_cons (ps_for PassesOwn.never rfl (pi_list (pv 1)) (pg_name (i := 3) sc_l_numbered.nd rfl (Or.inl rfl)) (pss_cons (ps_asg (pe_ix ix_list (pv 0) (pv 3) (fun _ _ => rfl)) (pg_tup (by rfl) (pgs_cons (pg_name (i := 4) sc_l_numbered.nd rfl (Or.inl rfl)) (pgs_cons (pg_name (i := 5) sc_l_numbered.nd rfl (Or.inl rfl)) (pgs_cons (pg_name (i := 6) sc_l_numbered.nd rfl (Or.inl rfl)) pgs_nil))))) (pss_one (ps_expr (pe_bm PySem.F.plainAttrs_list PySem.F.slot_list_append PySem.F.type_list_append mt_append (pv 2) (pa_cons (pe_tup (pa_cons (pv 4) (pa_cons (pv 5) (pa_cons (pe_callTy call_tuple_of (by rfl) T.b_tuple bt_tuple (pa_cons (pe_callB cr_sortedI (by rfl) T.b_sorted bt_sorted (pa_cons (pe_lc rfl sc_l_numbered.nd (pi_tup (pv 6)) (blkOk_by (own := [("_law_other", 7)]) (N := N_l_numbered) (sc := defScope s_l_numbered) (by decide +kernel)) (fun _ _ _ _ _ => (pg_name (i := 7) sc_l_numbered.nd rfl (Or.inl rfl))) (fun _ _ _ _ _ => (pts_one (pt_cmpR (inS_K K rfl) (pv 7) (pv 1) (by rfl)))) (fun _ _ _ _ _ => (pe_bmK K rfl PySem.F.plainAttrs_list PySem.F.slot_list_index PySem.F.type_list_index (index_K K rfl) (pv 1) (pa_cons (pv 7) pa_nil)))) pa_nil)) pa_nil)) pa_nil)))) pa_nil)))))) (pss_one (ps_ret (pe_callTy call_tuple_of (by rfl) T.b_tuple bt_tuple (pa_cons (pv 2) pa_nil)))))), ?_⟩
    have hol : order.length ≤ ds.length := inR_le hnd hir
    refine ⟨Nat.zero_le _, fun fl hfl => ?_⟩
    refine ⟨_, rfl, o, rfl, ⟨_, SqL.of (same_new hfl _ _ ho)⟩, for_list (K := K) (a := o) (xs := iV order)
      (fun i σ H' => i ≤ order.length ∧ Same H H' ∧ ∃ (ys : List V) (v3 v4 v5 v6 v7 : Option V), σ = [some (.ref a), some (.ref o), some (.ref fl), v3, v4, v5, v6, v7] ∧ H' fl = some (.lst ys) ∧ DsAt H' ys ((renum ds order).take i))
      ⟨Nat.zero_le _, same_new hfl, [], _, _, _, _, _, rfl, upd_same, DsAt.nil⟩ (fun i σ H' _ p => SqL.of (p.2.1 _ _ ho)) ?_ ?_⟩
    · rintro i x σ H2 hi ⟨hle, s2, ys, v3, v4, v5, v6, v7, rfl, f2, d2⟩
      obtain ⟨z, hz, rfl⟩ := iV_get hi
      have hzm := List.mem_of_getElem? hz
      have hzr := hir z hzm
      have hzl : z.toNat < ds.length := by omega
      have ez : ((z.toNat : Nat) : Int) = z := by omega
      obtain ⟨v, d, e1, e2, p, q2, rfl, hp, hq⟩ := hd.get hzl
      have e1' : atI xs z = some (.ref p) := by
        have := atI_nat e1
        rw [ez] at this
        exact this
      refine ⟨_, rfl, _, rfl, a, xs, z, .ref p, rfl, rfl, SqL.of (s2 _ _ ha), e1', p, _, rfl, SqT.of (s2 _ _ hp), rfl, _, _, rfl, _, _, rfl, _, _, rfl, rfl, ?_⟩
      refine ⟨_, rfl, .inl ⟨rfl, _, SqL.of f2⟩, _, rfl, _, rfl, _, rfl, q2, rfl, ⟨_, SqT.of (s2 _ _ hq)⟩, fun Dl hDl => lc_tup (K := K) (a := q2) (xs := iV d.2.2)
        (fun j H' => j ≤ d.2.2.length ∧ Same H2 H' ∧ H' Dl = some (.lst (iV (((d.2.2.take j).filter fun x => decide (x ∈ order)).map (posOf order)))))
        ⟨Nat.zero_le _, same_new hDl, by rw [upd_same]; rfl⟩ (fun j H' _ p => SqT.of (p.2.1 _ _ (s2 _ _ hq))) ?_ ?_⟩
      · rintro j y H3 hj ⟨hjl, s3, l3⟩
        obtain ⟨u, hu, rfl⟩ := iV_get hj
        have ho3 := s3 _ _ (s2 _ _ ho)
        refine ⟨rfl, ?_⟩
        refine ⟨_, rfl, _, rfl, o, iV order, rfl, .inl (SqL.of ho3), rfl, all_flat _, ?_⟩
        rw [if_neg (by decide), inV_int]
        have tk : d.2.2.take (j + 1) = d.2.2.take j ++ [u] := by
          rw [List.take_add_one, hu]
          rfl
        by_cases hm : u ∈ order
        · rw [decide_eq_true hm]
          obtain ⟨m, m1, m2, m3⟩ := pos_idx hm
          refine ⟨_, rfl, iteT ⟨_, rfl, .inl ⟨rfl, _, SqL.of ho3⟩, _, rfl, o, iV order, .int u, order.idxOf u, .int u, rfl, rfl, SqL.of ho3, rfl, all_flat _, ?_, ?_, fun m z' hm2 hz' => ?_, _, l3, sz_lt ?_, ?_, same_upd s3 hDl, ?_⟩⟩
          · have e : order.idxOf u = m := by unfold posOf at m2; omega
            rw [List.getElem?_map, e, m1]
            rfl
          · show (u == u) = true
            exact beq_self_eq_true u
          · obtain ⟨z2, hz2, rfl⟩ := iV_get hz'
            have := idx_first m hm2
            show (z2 == u) = false
            refine Bool.eq_false_iff.mpr fun e => ?_
            rw [beq_iff_eq.mp e] at hz2
            exact this hz2
          · have w1 := hwl d.2.2 (List.mem_map_of_mem (f := fun d : Deed => d.2.2) (List.mem_of_getElem? e2))
            rw [iV_len, List.length_map]
            have := List.length_filter_le (fun x => decide (x ∈ order)) (d.2.2.take j)
            rw [List.length_take] at this
            omega
          · exact (List.getElem?_eq_some_iff.mp hu).1
          · rw [upd_same, tk, List.filter_append, List.map_append, iV_app, List.filter_cons, if_pos (decide_eq_true hm)]
            rfl
        · rw [decide_eq_false hm]
          refine ⟨_, rfl, iteF ⟨?_, s3, ?_⟩⟩
          · exact (List.getElem?_eq_some_iff.mp hu).1
          · rw [l3, tk, List.filter_append, List.filter_cons, if_neg (by rw [decide_eq_false hm]; decide)]
            rw [List.filter_nil, List.append_nil]
      · rintro H3 ⟨_, s3, l3⟩
        rw [iV_len, List.take_length] at l3
        refine ⟨Dl, _, rfl, SqL.of l3, fun ns p3 hn1 hn2 hp3 => ?_⟩
        have en : ns = renumW order d.2.2 := isort_eq hn1 hn2
        refine ⟨p3, _, rfl, .inl ⟨SqL.of upd_same, fun p4 hp4 => ⟨sz3, fun p5 hp5 => ?_⟩⟩⟩
        have s5 := same_snew (o := .tup [fV d.1, .int d.2.1, .ref p4]) (same_snew (o := .tup (iV ns)) (same_snew (o := .lst (iV ns)) s3 hp3) hp4) hp5
        have f5 := s5 _ _ f2
        refine ⟨fl, ys, _, rfl, rfl, f5, sz_lt ?_, ?_⟩
        · have := d2.len
          rw [List.length_take] at this
          omega
        refine ⟨(List.getElem?_eq_some_iff.mp hz).1, same_upd (s2.trans s5) hfl, _, _, _, _, _, _, rfl, upd_same, ?_⟩
        have tk : (renum ds order).take (i + 1) = (renum ds order).take i ++ [renum1 order d] := by
          rw [List.take_add_one]
          congr 1
          unfold renum
          rw [List.getElem?_map, hz, Option.map_some, getD_of e2]
          rfl
        rw [tk]
        refine DsAt.wlst f5 ((d2.same s5).snoc ⟨p5, p4, rfl, upd_same, ?_⟩)
        have h45 : p4 ≠ p5 := ne_of_none upd_same hp5
        rw [upd_ne h45, upd_same, en]
        rfl
    · rintro σ H2 ⟨_, s2, ys, v3, v4, v5, v6, v7, rfl, f2, d2⟩
      rw [iV_len] at d2
      have ef : (renum ds order).take order.length = renum ds order := by
        rw [List.take_of_length_le]
        unfold renum
        rw [List.length_map]
        exact Nat.le_refl _
      rw [ef] at d2
      refine ⟨_, rfl, fl, ys, rfl, .inl ⟨SqL.of f2, fun p hp => ?_⟩⟩
      exact q _ p ys (same_snew s2 hp) upd_same (d2.same (same_new hp))
def kOf (H : Hp) : V → Int × Int
  | .ref t => (match H t with
    | some (.tup [.int f, .int j]) => (f, j)
    | _ => (0, 0))
  | _ => (0, 0)
theorem kOf_at {H : Hp} {t : Addr} {f j : Int} (h : H t = some (.tup [.int f, .int j])) : kOf H (.ref t) = (f, j) := by
  show (match H t with | some (.tup [.int f, .int j]) => (f, j) | _ => ((0 : Int), (0 : Int))) = _
  rw [h]
def fOf (ds : List Deed) (j : Nat) : Int := (ds.getD j noDeed).1.getD 0
/-- pairs (first, deed) of the deeds js -/
def PrAt (H : Hp) (ds : List Deed) (zs : List V) (js : List Nat) : Prop := zs.length = js.length ∧ ∀ (m : Nat) (v : V), zs[m]? = some v → ∃ (t : Addr) (j : Nat), v = .ref t ∧ js[m]? = some j ∧ H t = some (.tup [.int (fOf ds j), .int (j : Nat)])
def begun (ds : List Deed) (i : Nat) : List Nat := (List.range i).filter (started ds)
theorem begun_succ (ds : List Deed) (i : Nat) : begun ds (i + 1) = begun ds i ++ (if started ds i then [i] else []) := by
  unfold begun
  rw [List.range_succ, List.filter_append, List.filter_cons]
  cases started ds i <;> rfl
theorem begun_len (ds : List Deed) (i : Nat) : (begun ds i).length ≤ i := by
  unfold begun
  have := List.length_filter_le (started ds) (List.range i)
  rw [List.length_range] at this
  exact this
theorem begun_lt {ds : List Deed} {i m m' j j' : Nat} (hm : m < m') (h1 : (begun ds i)[m]? = some j) (h2 : (begun ds i)[m']? = some j') : j < j' := by
  have p : (begun ds i).Pairwise (· < ·) := List.Pairwise.filter _ List.pairwise_lt_range
  obtain ⟨a1, a2⟩ := List.getElem?_eq_some_iff.mp h1
  obtain ⟨b1, b2⟩ := List.getElem?_eq_some_iff.mp h2
  have := List.pairwise_iff_getElem.mp p m m' a1 b1 hm
  rw [a2, b2] at this
  exact this
theorem begun_mem {ds : List Deed} {i j : Nat} (h : j ∈ begun ds i) : j < i ∧ started ds j = true := by
  have := List.mem_filter.mp h
  exact ⟨List.mem_range.mp this.1, this.2⟩
theorem first_lt {ds : List Deed} (F : FAsc ds) {i m m' j j' : Nat} (hi : i ≤ ds.length) (hm : m < m') (h1 : (begun ds i)[m]? = some j) (h2 : (begun ds i)[m']? = some j') : fOf ds j < fOf ds j' := by
  have lt := begun_lt hm h1 h2
  obtain ⟨a1, a2⟩ := begun_mem (List.mem_of_getElem? h1)
  obtain ⟨b1, b2⟩ := begun_mem (List.mem_of_getElem? h2)
  rw [started_iff (by omega)] at a2 b2
  obtain ⟨f, hf⟩ := Option.isSome_iff_exists.mp a2
  obtain ⟨g, hg⟩ := Option.isSome_iff_exists.mp b2
  have e1 : ds[j]? = some ds[j] := List.getElem?_eq_getElem (by omega)
  have e2 : ds[j']? = some ds[j'] := List.getElem?_eq_getElem (by omega)
  have := F j j' _ _ f g lt e1 e2 hf hg
  unfold fOf
  rw [getD_of e1, getD_of e2, hf, hg]
  exact this
theorem pairs_sorted {H : Hp} {ds : List Deed} {i : Nat} {zs ys : List V} (F : FAsc ds) (hi : i ≤ ds.length) (p : PrAt H ds zs (begun ds i)) (h1 : SrtO.Srtd (ltP (kOf H)) ys) (h2 : SrtO.Stb (ltP (kOf H)) ys zs) : ys = zs := by
  have lt : ∀ (m m' : Nat) (v v' : V), m < m' → zs[m]? = some v → zs[m']? = some v' → ltP (kOf H) v v' = true := fun m m' v v' hm e1 e2 => by
    obtain ⟨t, j, rfl, g1, g2⟩ := p.2 m v e1
    obtain ⟨t', j', rfl, g1', g2'⟩ := p.2 m' v' e2
    have := first_lt F hi hm g1 g1'
    show SrtO.lexB (kOf H (.ref t)) (kOf H (.ref t')) = true
    rw [kOf_at g2, kOf_at g2']
    exact SrtO.lexB_iff.mpr (.inl this)
  have srt : SrtO.Srtd (ltP (kOf H)) zs := by
    refine List.pairwise_iff_getElem.mpr fun m m' a1 b1 hm => ?_
    exact (ltP_swo (kOf H)).asym _ _ (lt m m' _ _ hm (List.getElem?_eq_getElem a1) (List.getElem?_eq_getElem b1))
  refine List.Perm.eq_of_pairwise (fun a b ha hb r1 r2 => ?_) h1 srt h2.perm
  obtain ⟨m, hm⟩ := List.mem_iff_getElem?.mp (h2.perm.mem_iff.mp ha)
  obtain ⟨m', hm'⟩ := List.mem_iff_getElem?.mp hb
  rcases Nat.lt_trichotomy m m' with h | h | h
  · have := lt m m' a b h hm hm'
    rw [r2] at this
    cases this
  · subst h
    rw [hm] at hm'
    exact Option.some.inj hm'
  · have := lt m' m b a h hm' hm
    rw [r1] at this
    cases this
def spAged : Sp := fun vs H Q _ => ∃ (a : Addr) (xs : List V) (ds : List Deed), vs = [.ref a] ∧ H a = some (.lst xs) ∧ DsAt H xs ds ∧ ds.length ≤ 1000 ∧ FAsc ds ∧
  ∀ (H' : Hp) (p : Addr), Same H H' → H' p = some (.lst (iV (agedL ds))) → Q (.ref p) H'
theorem natI_snoc (l : List Nat) (x : Nat) : natI (l ++ [x]) = natI l ++ [(x : Int)] := List.map_append ..
theorem fV_isN {f : Option Int} : decide (fV f = .non) = !f.isSome := by
  cases f <;> rfl
theorem started_at {ds : List Deed} {i : Nat} {d : Deed} (h : ds[i]? = some d) : started ds i = d.1.isSome := by
  obtain ⟨h1, h2⟩ := List.getElem?_eq_some_iff.mp h
  rw [started_iff h1, h2]
theorem c_l_aged {f : Addr} (T : Txt K w mg C D) (df : Df K mg "_law_aged" s_l_aged f)   : CalF P w K mg base 1 f "_law_aged" (spAged) := by
  refine calF_of df sc_l_aged (fun vs H Q E h => ?_) (fun _ _ _ _ _ _ us hl => match us, hl with | [_], _ => rfl) (fun cdv A outer s H vs Q E hr h => ?_)
  · obtain ⟨a, xs, ds, rfl, _⟩ := h
    rfl
  · obtain ⟨a, xs, ds, rfl, ha, hd, hn, F, q⟩ := h
    refine ⟨_, (pss_cons (ps_set (i := 1) sc_l_aged.nd rfl (Or.inl rfl) (pe_callB cr_sortedPO (by rfl) T.b_sorted bt_sorted (pa_cons (pe_lc rfl sc_l_aged.nd (pi_range1 (by rfl) T.b_range (pa_cons (pe_callB call_len_seq (by rfl) T.b_len bt_len (pa_cons (pv 0) pa_nil)) pa_nil)) (blkOk_by (own := [("_law_deed", 2)]) (N := N_l_aged) (sc := defScope s_l_aged) (by decide +kernel)) (fun _ _ _ _ _ => (pg_name (i := 2) sc_l_aged.nd rfl (Or.inl rfl))) (fun _ _ _ _ _ => (pts_one (pt_cmpR op_notN (pe_ix (ixT_K K rfl) (pe_ix (ixL_K K rfl) (pv 0) (pv 2) (fun _ _ => rfl)) pe_int (fun _ _ => rfl)) pe_non (nomark _)))) (fun _ _ _ _ _ => (pe_tup (pa_cons (pe_ix (ixT_K K rfl) (pe_ix (ixL_K K rfl) (pv 0) (pv 2) (fun _ _ => rfl)) pe_int (fun _ _ => rfl)) (pa_cons (pv 2) pa_nil))))) pa_nil))) (pss_one (ps_ret (pe_op op_cat (pe_lc rfl sc_l_aged.nd (pi_list (pv 1)) (blkOk_by (own := [("_law_first", 3), ("_law_deed", 2)]) (N := N_l_aged) (sc := defScope s_l_aged) (by decide +kernel)) (fun _ _ _ _ _ => (pg_tupK (n := 2) K rfl (by rfl) (pgs_cons (pg_name (i := 3) sc_l_aged.nd rfl (Or.inl rfl)) (pgs_cons (pg_name (i := 2) sc_l_aged.nd rfl (Or.inl rfl)) pgs_nil)))) (fun _ _ _ _ _ => pts_nil) (fun _ _ _ _ _ => (pv 2))) (pe_lc rfl sc_l_aged.nd (pi_range1 (by rfl) T.b_range (pa_cons (pe_callB call_len_seq (by rfl) T.b_len bt_len (pa_cons (pv 0) pa_nil)) pa_nil)) (blkOk_by (own := [("_law_deed", 2)]) (N := N_l_aged) (sc := defScope s_l_aged) (by decide +kernel)) (fun _ _ _ _ _ => (pg_name (i := 2) sc_l_aged.nd rfl (Or.inl rfl))) (fun _ _ _ _ _ => (pts_one (pt_cmpR op_isN (pe_ix (ixT_K K rfl) (pe_ix (ixL_K K rfl) (pv 0) (pv 2) (fun _ _ => rfl)) pe_int (fun _ _ => rfl)) pe_non (nomark _)))) (fun _ _ _ _ _ => (pv 2))))))), ?_⟩
    have hln := hd.len
    refine ⟨_, rfl, a, xs, rfl, .inl (SqL.of ha), _, rfl, by omega, by omega, fun Db hDb => lc_range (fun i H' => Same H H' ∧ ∃ zs : List V, H' Db = some (.lst zs) ∧ PrAt H' ds zs (begun ds i))
      ⟨same_new hDb, [], upd_same, rfl, fun m v h => by simp at h⟩ ?_ ?_⟩
    · rintro i H1 hi ⟨s1, zs, hz, hp⟩
      have hid : i < ds.length := by omega
      obtain ⟨v, d, e1, e2, p, q2, rfl, hp1, hq1⟩ := hd.get hid
      have bs := begun_succ ds i
      rw [started_at e2] at bs
      refine ⟨rfl, ?_⟩
      refine ⟨_, rfl, _, rfl, a, xs, _, .ref p, rfl, rfl, SqL.of (s1 _ _ ha), atI_nat0 e1, p, _, 0, fV d.1, rfl, rfl, SqT.of (s1 _ _ hp1), rfl, rfl, _, rfl, ?_⟩
      rw [fV_some]
      cases hf : d.1 with
      | none =>
        rw [hf] at bs
        refine iteF ⟨s1, zs, hz, ?_⟩
        rw [bs]
        show PrAt H1 ds zs (begun ds i ++ [])
        rw [List.append_nil]
        exact hp
      | some f =>
        rw [hf] at bs hp1
        refine iteT ⟨_, rfl, _, rfl, a, xs, _, .ref p, rfl, rfl, SqL.of (s1 _ _ ha), atI_nat0 e1, p, _, 0, .int f, rfl, rfl, SqT.of (s1 _ _ hp1), rfl, _, rfl, sz2, fun t ht => ?_⟩
        have s2 := same_new (o := .tup [.int f, .int (0 + (i : Nat))]) ht
        refine ⟨zs, s2 _ _ hz, sz_lt (by have := hp.1; have := begun_len ds i; omega), same_upd (s1.trans s2) hDb, zs ++ [.ref t], upd_same, ?_⟩
        rw [bs]
        refine ⟨by rw [List.length_append, hp.1, List.length_append]; rfl, fun m v hm => ?_⟩
        rcases snoc_get hm with ⟨h1, h2⟩ | ⟨h1, h2⟩
        · obtain ⟨t', j, rfl, g1, g2⟩ := hp.2 m v h2
          have h3 : m < (begun ds i).length := by rw [← hp.1]; exact h1
          refine ⟨t', j, rfl, by show (begun ds i ++ [i])[m]? = _; rw [List.getElem?_append_left h3]; exact g1, ?_⟩
          rw [upd_ne (at_ne (s2 _ _ g2) (s2 _ _ hz) nofun)]
          exact s2 _ _ g2
        · rw [h2]
          refine ⟨t, i, rfl, ?_, ?_⟩
          · show (begun ds i ++ [i])[m]? = _
            rw [h1, hp.1, List.getElem?_append_right (Nat.le_refl _), Nat.sub_self]
            rfl
          · rw [upd_ne (ne_of_none hz ht).symm, upd_same]
            have e : fOf ds i = f := by
              unfold fOf
              rw [getD_of e2, hf]
              rfl
            rw [e, Int.zero_add]
    · rintro H1 ⟨s1, zs, hz, hp⟩
      have en : ((xs.length : Nat) : Int).toNat = ds.length := by omega
      rw [en] at hp
      refine ⟨Db, zs, kOf H1, rfl, SqL.of hz, fun x hx => ?_, fun ys p h1 h2 hp2 => ?_⟩
      · obtain ⟨m, hm⟩ := List.mem_iff_getElem?.mp hx
        obtain ⟨t, j, rfl, g1, g2⟩ := hp.2 m x hm
        exact ⟨t, rfl, by rw [kOf_at g2]; exact g2⟩
      obtain rfl := pairs_sorted F (Nat.le_refl _) hp h1 h2
      have s2 := same_new (o := .lst ys) hp2
      have s12 := s1.trans s2
      refine ⟨_, rfl, p, rfl, ⟨_, SqL.of upd_same⟩, fun D2 hD2 => lc_list (K := K) (a := p) (xs := ys) (fun i H' => i ≤ ys.length ∧ Same (upd H1 p (.lst ys)) H' ∧ H' D2 = some (.lst (iV (natI ((begun ds ds.length).take i)))))
        ⟨Nat.zero_le _, same_new hD2, by rw [upd_same]; rfl⟩ (fun i H' _ z => SqL.of (z.2.1 _ _ upd_same)) ?_ ?_⟩
      · rintro i x H2 hi ⟨hle, s3, h3⟩
        obtain ⟨t, j, rfl, g1, g2⟩ := hp.2 i x hi
        refine ⟨t, _, rfl, SqT.of (s3 _ _ (s2 _ _ g2)), rfl, _, _, rfl, _, _, rfl, rfl, rfl, yes_ite ?_⟩
        refine ⟨_, rfl, _, h3, sz_lt ?_, (List.getElem?_eq_some_iff.mp hi).1, same_upd s3 hD2, ?_⟩
        · rw [iV_len]
          unfold natI
          rw [List.length_map, List.length_take]
          have := begun_len ds ds.length
          omega
        · rw [upd_same, List.take_add_one, g1]
          show some (HO.lst _) = some (.lst (iV (natI ((begun ds ds.length).take i ++ [j]))))
          rw [natI_snoc, iV_app]
          rfl
      · rintro H2 ⟨_, s3, h3⟩
        rw [hp.1, List.take_length] at h3
        have s13 := s12.trans s3
        refine ⟨_, rfl, a, xs, rfl, .inl (SqL.of (s13 _ _ ha)), _, rfl, by omega, by omega, fun D3 hD3 => lc_range (fun i H' => Same H2 H' ∧ H' D3 = some (.lst (iV (natI ((List.range i).filter fun i => !started ds i)))))
          ⟨same_new hD3, upd_same⟩ ?_ ?_⟩
        · rintro i H3 hi ⟨s4, h4⟩
          have hid : i < ds.length := by omega
          obtain ⟨v, d, e1, e2, p', q2, rfl, hp1, hq1⟩ := hd.get hid
          have rs : (List.range (i + 1)).filter (fun i => !started ds i) = (List.range i).filter (fun i => !started ds i) ++ (if d.1.isSome then [] else [i]) := by
            rw [List.range_succ, List.filter_append, List.filter_cons, started_at e2]
            cases d.1.isSome <;> rfl
          have s14 := s13.trans s4
          refine ⟨rfl, ?_⟩
          refine ⟨_, rfl, _, rfl, a, xs, _, .ref p', rfl, rfl, SqL.of (s14 _ _ ha), atI_nat0 e1, p', _, 0, fV d.1, rfl, rfl, SqT.of (s14 _ _ hp1), rfl, rfl, _, rfl, ?_⟩
          rw [fV_isN]
          cases hf : d.1 with
          | some f =>
            rw [hf] at rs
            refine iteF ⟨s4, ?_⟩
            rw [rs, h4]
            show _ = some (HO.lst (iV (natI (_ ++ []))))
            rw [List.append_nil]
          | none =>
            rw [hf] at rs
            refine iteT ⟨_, rfl, _, h4, sz_lt ?_, same_upd s4 hD3, ?_⟩
            · rw [iV_len]
              unfold natI
              rw [List.length_map]
              have := List.length_filter_le (fun i => !started ds i) (List.range i)
              rw [List.length_range] at this
              omega
            · rw [upd_same, rs]
              show some (HO.lst (_ ++ [V.int (0 + (i : Nat))])) = some (.lst (iV (natI (_ ++ [i]))))
              rw [natI_snoc, iV_app, Int.zero_add]
              rfl
        · rintro H3 ⟨s4, h4⟩
          rw [en] at h4
          refine ⟨D2, D3, _, _, rfl, rfl, s4 _ _ h3, h4, Nat.le_of_lt (sz_lt ?_), fun p5 hp5 => ?_⟩
          · rw [iV_len, iV_len]
            unfold natI
            rw [List.length_map, List.length_map]
            have h1 := begun_len ds ds.length
            have h2 := List.length_filter_le (fun i => !started ds i) (List.range ds.length)
            rw [List.length_range] at h2
            omega
          · refine q _ p5 (same_snew (s13.trans s4) hp5) ?_
            rw [upd_same, ← iV_app]
            rfl
theorem fasc_step {head : Int} {ds : List Deed} {w : Wish} (W : WF head ds) (hok : WishOk ds w) : FAsc (stepD head ds w) := by
  obtain ⟨k, hk⟩ := W.pre
  cases w with
  | row d c nd =>
    intro i j x y f g hij hx hy hf hg
    have h1 : (ds.set d (some ((ds.getD d noDeed).1.getD head), nd, (ds.getD d noDeed).2.2))[i]? = some x := hx
    have h2 : (ds.set d (some ((ds.getD d noDeed).1.getD head), nd, (ds.getD d noDeed).2.2))[j]? = some y := hy
    obtain ⟨e, he⟩ : ∃ e, ds[d]? = some e := ⟨_, List.getElem?_eq_getElem hok.1⟩
    rw [getD_of he] at h1 h2
    by_cases z1 : d = i
    · subst z1
      rw [List.getElem?_set_self hok.1] at h1
      rw [List.getElem?_set_ne (by omega)] at h2
      cases h1
      cases hs : e.1 with
      | none =>
        exfalso
        have a1 := hk.2 d e he
        rw [hs] at a1
        have a2 := (hk.2 j y h2).mp (by rw [hg]; rfl)
        have a3 : ¬ d < k := fun z => by
          have := a1.mpr z
          cases this
        omega
      | some f0 =>
        have hf2 : some (e.1.getD head) = some f := hf
        rw [hs] at hf2
        cases hf2
        exact W.asc d j e y f0 g hij he h2 hs hg
    · rw [List.getElem?_set_ne z1] at h1
      by_cases z2 : d = j
      · subst z2
        rw [List.getElem?_set_self hok.1] at h2
        cases h2
        cases hs : e.1 with
        | none =>
          have hg2 : some (e.1.getD head) = some g := hg
          rw [hs] at hg2
          cases hg2
          exact (W.fst i x f h1 hf).2
        | some g0 =>
          have hg2 : some (e.1.getD head) = some g := hg
          rw [hs] at hg2
          cases hg2
          exact W.asc i d x e f g0 hij h1 he hf hs
      · rw [List.getElem?_set_ne z2] at h2
        exact W.asc i j x y f g hij h1 h2 hf hg
  | opn c nd ws =>
    intro i j x y f g hij hx hy hf hg
    rcases snoc_get hy with ⟨b1, b2⟩ | ⟨b1, b2⟩
    · rcases snoc_get hx with ⟨a1, a2⟩ | ⟨a1, a2⟩
      · exact W.asc i j x y f g hij a2 b2 hf hg
      · omega
    · rcases snoc_get hx with ⟨a1, a2⟩ | ⟨a1, a2⟩
      · rw [b2] at hg
        have hg2 : (if 0 < c then some head else none) = some g := hg
        by_cases hc : 0 < c
        · rw [if_pos hc] at hg2
          cases hg2
          exact (W.fst i x f a2 hf).2
        · rw [if_neg hc] at hg2
          cases hg2
      · omega
  | wai d o =>
    intro i j x y f g hij hx hy hf hg
    have same : ∀ (i : Nat) (x : Deed), (stepD head ds (.wai d o))[i]? = some x → ∃ x', ds[i]? = some x' ∧ x'.1 = x.1 := fun i x h => by
      have h1 : (ds.set d ((ds.getD d noDeed).1, (ds.getD d noDeed).2.1, isort ((ds.getD d noDeed).2.2 ++ [(o : Int)])))[i]? = some x := h
      by_cases z : d = i
      · subst z
        obtain ⟨e, he⟩ : ∃ e, ds[d]? = some e := ⟨_, List.getElem?_eq_getElem hok.1⟩
        rw [List.getElem?_set_self hok.1, getD_of he] at h1
        cases h1
        exact ⟨e, he, rfl⟩
      · rw [List.getElem?_set_ne z] at h1
        exact ⟨x, h1, rfl⟩
    obtain ⟨x', h1, h2⟩ := same i x hx
    obtain ⟨y', g1, g2⟩ := same j y hy
    exact W.asc i j x' y' f g hij h1 g1 (h2.trans hf) (g2.trans hg)
theorem step_len {head : Int} {ds : List Deed} (w : Wish) : (stepD head ds w).length ≤ ds.length + 1 := by
  cases w with
  | row d c nd => show (ds.set d _).length ≤ _; rw [List.length_set]; omega
  | opn c nd ws => show (ds ++ [_]).length ≤ _; rw [List.length_append]; exact Nat.le_refl _
  | wai d o => show (ds.set d _).length ≤ _; rw [List.length_set]; omega
theorem step_waits {head : Int} {ds : List Deed} {w : Wish} (W : WF head ds) (hok : WishOk ds w) : ∀ ws ∈ waitsL (stepD head ds w), ws.length ≤ 1000 := by
  have hn := W.len
  have base := waits_short W.good.asc W.good.inr (by omega : ds.length ≤ 1000)
  have one : ∀ ws ∈ waitsL ds, ws.length ≤ 200 := fun ws h => Nat.le_trans (inR_le (W.good.asc ws h).nodup (W.good.inr ws h)) hn
  cases w with
  | row d c nd =>
    intro ws h
    obtain ⟨e, he⟩ : ∃ e, ds[d]? = some e := ⟨_, List.getElem?_eq_getElem hok.1⟩
    have h' : ws ∈ waitsL (ds.set d (some ((ds.getD d noDeed).1.getD head), nd, (ds.getD d noDeed).2.2)) := h
    rw [getD_of he] at h'
    exact base ws (waits_set (d' := (some (e.1.getD head), nd, e.2.2)) he rfl ws h')
  | opn c nd us =>
    intro ws h
    have h' : ws ∈ waitsL (ds ++ [((if 0 < c then some head else none : Option Int), nd, us)]) := h
    rw [waits_app] at h'
    rcases List.mem_append.mp h' with h | h
    · exact base ws h
    · rw [List.mem_singleton.mp h]
      exact Nat.le_trans (inR_le hok.2.2.2.2.2.1.nodup hok.2.2.2.2.2.2) (by omega)
  | wai d o =>
    intro ws h
    obtain ⟨e, he⟩ : ∃ e, ds[d]? = some e := ⟨_, List.getElem?_eq_getElem hok.1⟩
    obtain ⟨x, hx, rfl⟩ := List.mem_map.mp h
    have hx' : x ∈ ds.set d ((ds.getD d noDeed).1, (ds.getD d noDeed).2.1, isort ((ds.getD d noDeed).2.2 ++ [(o : Int)])) := hx
    rw [getD_of he] at hx'
    rcases List.mem_or_eq_of_mem_set hx' with h1 | h1
    · exact base _ (List.mem_map_of_mem (f := fun d : Deed => d.2.2) h1)
    · rw [h1]
      show (isort (e.2.2 ++ [(o : Int)])).length ≤ 1000
      rw [isort_length, List.length_append, List.length_singleton]
      have := one e.2.2 (List.mem_map_of_mem (f := fun d : Deed => d.2.2) (List.mem_of_getElem? he))
      omega
def spLBehind : Sp := fun vs H Q _ => ∃ (p t q : Addr) (cells head : Int) (ys : List V) (ds : List Deed) (w : Wish), vs = [.ref p, .ref t] ∧ H p = some (.tup [.int cells, .int head, .ref q]) ∧ H q = some (.tup ys) ∧ DsAt H ys ds ∧ WF head ds ∧ WishAt H t w ∧ WishOk ds w ∧
  ∀ (H' : Hp) (p' q' : Addr) (zs : List V), Same H H' → H' p' = some (.tup [.int cells, .int (head + more w), .ref q']) → H' q' = some (.tup zs) → DsAt H' zs (after (stepD head ds w)) → Q (.ref p') H'
theorem c_l_behind {f : Addr} (T : Txt K w mg C D) (df : Df K mg "_law_behind" s_l_behind f) (c_l_numbered : Cal P w K mg base 1 "_law_numbered" (spRenum)) (c_l_aged : Cal P w K mg base 1 "_law_aged" (spAged))  : CalF P w K mg base 2 f "_law_behind" (spLBehind) := by
  refine calF_of df sc_l_behind (fun vs H Q E h => ?_) (fun _ _ _ _ _ _ us hl => match us, hl with | [_, _], _ => rfl) (fun cdv A outer s H vs Q E hr h => ?_)
  · obtain ⟨p, t, q, cells, head, ys, ds, w, rfl, _⟩ := h
    rfl
  · obtain ⟨p, t, qa, cells, head, ys, ds, w, rfl, hp, hqa, hd, W, hw, hok, q⟩ := h
    refine ⟨_, (pss_cons (ps_asg (pv 0) (pg_tup (by rfl) (pgs_cons (pg_name (i := 2) sc_l_behind.nd rfl (Or.inl rfl)) (pgs_cons (pg_name (i := 3) sc_l_behind.nd rfl (Or.inl rfl)) (pgs_cons (pg_name (i := 4) sc_l_behind.nd rfl (Or.inl rfl)) pgs_nil))))) (pss_cons (ps_set (i := 5) sc_l_behind.nd rfl (Or.inl rfl) (pe_callTy call_list_of (by rfl) T.b_list bt_list (pa_cons (pv 4) pa_nil))) (pss_cons (ps_set (i := 6) sc_l_behind.nd rfl (Or.inl rfl) pe_int) (Evl.pss_cut (ps_if (pt_cmpR op_eq (pe_ix ix_tup (pv 1) pe_int (fun _ _ => rfl)) pe_str (nomark _)) (pss_cons (ps_asg (pe_ix ix_list (pv 5) (pe_ix ix_tup (pv 1) pe_int (fun _ _ => rfl)) (fun _ _ => rfl)) (pg_tup (by rfl) (pgs_cons (pg_name (i := 7) sc_l_behind.nd rfl (Or.inl rfl)) (pgs_cons (pg_name (i := 8) sc_l_behind.nd rfl (Or.inl rfl)) (pgs_cons (pg_name (i := 9) sc_l_behind.nd rfl (Or.inl rfl)) pgs_nil))))) (pss_cons (ps_asg (pe_tup (pa_cons (pe_ifExp (pt_cmpR op_isN (pv 7) pe_non (nomark _)) (pv 3) (pv 7)) (pa_cons (pe_ix ix_tup (pv 1) pe_int (fun _ _ => rfl)) (pa_cons (pv 9) pa_nil)))) (pg_sub (pv 5) (pe_ix ix_tup (pv 1) pe_int (fun _ _ => rfl)) set_list)) (pss_one (ps_set (i := 6) sc_l_behind.nd rfl (Or.inl rfl) (pe_ix ix_tup (pv 1) pe_int (fun _ _ => rfl)))))) (pss_one (ps_if (pt_cmpR op_eq (pe_ix ix_tup (pv 1) pe_int (fun _ _ => rfl)) pe_str (nomark _)) (pss_cons (ps_expr (pe_bm PySem.F.plainAttrs_list PySem.F.slot_list_append PySem.F.type_list_append mt_append (pv 5) (pa_cons (pe_tup (pa_cons (pe_ifExp (pt_cmpR op_gt (pe_ix ix_tup (pv 1) pe_int (fun _ _ => rfl)) pe_int (nomark _)) (pv 3) pe_non) (pa_cons (pe_ix ix_tup (pv 1) pe_int (fun _ _ => rfl)) (pa_cons (pe_ix ix_tup (pv 1) pe_int (fun _ _ => rfl)) pa_nil)))) pa_nil))) (pss_one (ps_set (i := 6) sc_l_behind.nd rfl (Or.inl rfl) (pe_ix ix_tup (pv 1) pe_int (fun _ _ => rfl))))) (pss_cons (ps_asg (pe_ix ix_list (pv 5) (pe_ix ix_tup (pv 1) pe_int (fun _ _ => rfl)) (fun _ _ => rfl)) (pg_tup (by rfl) (pgs_cons (pg_name (i := 7) sc_l_behind.nd rfl (Or.inl rfl)) (pgs_cons (pg_name (i := 8) sc_l_behind.nd rfl (Or.inl rfl)) (pgs_cons (pg_name (i := 9) sc_l_behind.nd rfl (Or.inl rfl)) pgs_nil))))) (pss_one (ps_asg (pe_tup (pa_cons (pv 7) (pa_cons (pv 8) (pa_cons (pe_callTy call_tuple_of (by rfl) T.b_tuple bt_tuple (pa_cons (pe_callB cr_sortTup (by rfl) T.b_sorted bt_sorted (pa_cons (pe_op op_catJ (pv 9) (pe_tup (pa_cons (pe_ix ix_tup (pv 1) pe_int (fun _ _ => rfl)) pa_nil))) pa_nil)) pa_nil)) pa_nil)))) (pg_sub (pv 5) (pe_ix ix_tup (pv 1) pe_int (fun _ _ => rfl)) set_list))))))) (pss_one (ps_ret (pe_tup (pa_cons (pv 2) (pa_cons (pe_op op_add (pv 3) (pv 6)) (pa_cons (pe_u c_l_numbered hr (by decide) (by rfl) (pa_cons (pv 5) (pa_cons (pe_u c_l_aged hr (by decide) (by rfl) (pa_cons (pv 5) pa_nil)) pa_nil))) pa_nil)))))))))), ?_⟩
    have hln := hd.len
    have hn := W.len
    refine ⟨_, rfl, p, _, rfl, SqT.of hp, rfl, _, _, rfl, _, _, rfl, _, _, rfl, rfl, ?_⟩
    refine ⟨_, rfl, qa, ys, rfl, .inr (SqT.of hqa), fun sl hsl => ?_⟩
    have s1 := same_new (o := .lst ys) hsl
    have hw1 := hw.same s1
    refine ⟨fun σ' H' => Same H H' ∧ ∃ (zs : List V) (v7 v8 v9 : Option V), σ' = [some (.ref p), some (.ref t), some (.int cells), some (.int head), some (.ref qa), some (.ref sl), some (.int (more w)), v7, v8, v9] ∧ H' sl = some (.lst zs) ∧ DsAt H' zs (stepD head ds w), ?_, ?_⟩
    · cases w with
      | row d c nd =>
        have ht : (upd H sl (.lst ys)) t = some (.tup [.str "row", .int (d : Nat), .int c, .int nd]) := hw1
        obtain ⟨v, e, e1, e2, p1, q1, rfl, hp1, hq1⟩ := hd.get hok.1
        refine ⟨_, rfl, t, _, 0, _, rfl, rfl, SqT.of ht, rfl, rfl, true, congrArg V.bl (decide_eq_true rfl), iteT ?_⟩
        refine ⟨_, rfl, _, rfl, t, _, 1, _, rfl, rfl, SqT.of ht, rfl, sl, ys, (d : Int), .ref p1, rfl, rfl, SqL.of upd_same, atI_nat e1, p1, _, rfl, SqT.of (s1 _ _ hp1), rfl, _, _, rfl, _, _, rfl, _, _, rfl, rfl, ?_⟩
        have hset : stepD head ds (.row d c nd) = ds.set d (some (e.1.getD head), nd, e.2.2) := by
          show ds.set d (some ((ds.getD d noDeed).1.getD head), nd, (ds.getD d noDeed).2.2) = _
          rw [getD_of e2]
        refine ⟨_, rfl, rfl, _, rfl, ?_⟩
        cases hf : e.1 with
        | none =>
          rw [hf] at hset
          refine iteT ⟨_, rfl, _, rfl, t, _, 3, _, rfl, rfl, SqT.of ht, rfl, _, rfl, sz3, fun tp htp => ?_⟩
          have s2 := same_new (o := .tup [.int head, .int nd, .ref q1]) htp
          have s12 := s1.trans s2
          refine ⟨_, rfl, _, rfl, t, _, 1, _, rfl, rfl, SqT.of (s2 _ _ ht), rfl, sl, ys, (d : Int), d, rfl, rfl, s2 _ _ upd_same, ixN_nat (by rw [hln]; exact hok.1), ?_⟩
          have s3 := same_upd (o := .lst (ys.set d (.ref tp))) s12 hsl
          refine ⟨_, rfl, t, _, 2, _, rfl, rfl, SqT.of (s3 _ _ hw), rfl, s3, ys.set d (.ref tp), _, _, _, rfl, upd_same, ?_⟩
          rw [hset]
          refine (hd.same s3).set d ⟨tp, q1, rfl, ?_, s3 _ _ hq1⟩
          rw [upd_ne (ne_of_none upd_same htp).symm, upd_same]
          rfl
        | some f0 =>
          rw [hf] at hset hp1
          refine iteF ⟨_, rfl, _, rfl, t, _, 3, _, rfl, rfl, SqT.of ht, rfl, _, rfl, sz3, fun tp htp => ?_⟩
          have s2 := same_new (o := .tup [fV (some f0), .int nd, .ref q1]) htp
          have s12 := s1.trans s2
          refine ⟨_, rfl, _, rfl, t, _, 1, _, rfl, rfl, SqT.of (s2 _ _ ht), rfl, sl, ys, (d : Int), d, rfl, rfl, s2 _ _ upd_same, ixN_nat (by rw [hln]; exact hok.1), ?_⟩
          have s3 := same_upd (o := .lst (ys.set d (.ref tp))) s12 hsl
          refine ⟨_, rfl, t, _, 2, _, rfl, rfl, SqT.of (s3 _ _ hw), rfl, s3, ys.set d (.ref tp), _, _, _, rfl, upd_same, ?_⟩
          rw [hset]
          refine (hd.same s3).set d ⟨tp, q1, rfl, ?_, s3 _ _ hq1⟩
          rw [upd_ne (ne_of_none upd_same htp).symm, upd_same]
          rfl
      | opn c nd ws =>
        obtain ⟨qw, ht0, hqw⟩ := hw
        have ht := s1 _ _ ht0
        refine ⟨_, rfl, t, _, 0, _, rfl, rfl, SqT.of ht, rfl, rfl, false, congrArg V.bl (decide_eq_false fun z => ro (by injection z with z; exact z.symm)), iteF ?_⟩
        refine ⟨_, rfl, t, _, 0, _, rfl, rfl, SqT.of ht, rfl, rfl, true, congrArg V.bl (decide_eq_true rfl), iteT ?_⟩
        refine ⟨_, rfl, .inl ⟨rfl, _, SqL.of upd_same⟩, _, rfl, t, _, 1, _, rfl, rfl, SqT.of ht, rfl, _, _, rfl, rfl, _, rfl, ite2 (fun hb => ?_) (fun hb => ?_)⟩
        · have hc : 0 < c := of_decide_eq_true hb
          refine ⟨_, rfl, _, rfl, t, _, 2, _, rfl, rfl, SqT.of ht, rfl, _, rfl, t, _, 3, _, rfl, rfl, SqT.of ht, rfl, sz3, fun tp htp => ?_⟩
          have s2 := same_new (o := .tup [.int head, .int nd, .ref qw]) htp
          have s12 := s1.trans s2
          refine ⟨sl, ys, _, rfl, rfl, s2 _ _ upd_same, sz_lt (by omega), ?_⟩
          have s3 := same_upd (o := .lst (ys ++ [.ref tp])) s12 hsl
          refine ⟨_, rfl, t, _, 1, _, rfl, rfl, SqT.of (s3 _ _ ht0), rfl, s3, ys ++ [.ref tp], _, _, _, rfl, upd_same, ?_⟩
          show DsAt _ (ys ++ [.ref tp]) (ds ++ [(if 0 < c then some head else none, nd, ws)])
          rw [if_pos hc]
          refine (hd.same s3).snoc ⟨tp, qw, rfl, ?_, s3 _ _ hqw⟩
          rw [upd_ne (ne_of_none upd_same htp).symm, upd_same]
          rfl
        · have hc : ¬ 0 < c := fun z => hb (decide_eq_true z)
          refine ⟨_, rfl, t, _, 2, _, rfl, rfl, SqT.of ht, rfl, _, rfl, t, _, 3, _, rfl, rfl, SqT.of ht, rfl, sz3, fun tp htp => ?_⟩
          have s2 := same_new (o := .tup [.non, .int nd, .ref qw]) htp
          have s12 := s1.trans s2
          refine ⟨sl, ys, _, rfl, rfl, s2 _ _ upd_same, sz_lt (by omega), ?_⟩
          have s3 := same_upd (o := .lst (ys ++ [.ref tp])) s12 hsl
          refine ⟨_, rfl, t, _, 1, _, rfl, rfl, SqT.of (s3 _ _ ht0), rfl, s3, ys ++ [.ref tp], _, _, _, rfl, upd_same, ?_⟩
          show DsAt _ (ys ++ [.ref tp]) (ds ++ [(if 0 < c then some head else none, nd, ws)])
          rw [if_neg hc]
          refine (hd.same s3).snoc ⟨tp, qw, rfl, ?_, s3 _ _ hqw⟩
          rw [upd_ne (ne_of_none upd_same htp).symm, upd_same]
          rfl
      | wai d o =>
        have ht0 : H t = some (.tup [.str "wait", .int (d : Nat), .int (o : Nat)]) := hw
        have ht := s1 _ _ ht0
        obtain ⟨v, e, e1, e2, p1, q1, rfl, hp1, hq1⟩ := hd.get hok.1
        have hem : e.2.2 ∈ waitsL ds := List.mem_map_of_mem (f := fun d : Deed => d.2.2) (List.mem_of_getElem? e2)
        obtain ⟨U, hU, hWU⟩ := W.good.few
        have h63 : e.2.2.length ≤ U.length := nodup_le (W.good.asc _ hem).nodup (hWU _ hem)
        have hset : stepD head ds (.wai d o) = ds.set d (e.1, e.2.1, isort (e.2.2 ++ [(o : Int)])) := by
          show ds.set d ((ds.getD d noDeed).1, (ds.getD d noDeed).2.1, isort ((ds.getD d noDeed).2.2 ++ [(o : Int)])) = _
          rw [getD_of e2]
        refine ⟨_, rfl, t, _, 0, _, rfl, rfl, SqT.of ht, rfl, rfl, false, congrArg V.bl (decide_eq_false fun z => rw_ (by injection z with z; exact z.symm)), iteF ?_⟩
        refine ⟨_, rfl, t, _, 0, _, rfl, rfl, SqT.of ht, rfl, rfl, false, congrArg V.bl (decide_eq_false fun z => ow (by injection z with z; exact z.symm)), iteF ?_⟩
        refine ⟨_, rfl, _, rfl, t, _, 1, _, rfl, rfl, SqT.of ht, rfl, sl, ys, (d : Int), .ref p1, rfl, rfl, SqL.of upd_same, atI_nat e1, p1, _, rfl, SqT.of (s1 _ _ hp1), rfl, _, _, rfl, _, _, rfl, _, _, rfl, rfl, ?_⟩
        refine ⟨_, rfl, _, rfl, _, rfl, _, rfl, t, _, 2, _, rfl, rfl, SqT.of ht, rfl, sz1, fun pa hpa => ?_⟩
        have s2 := same_snew (o := .tup [.int (o : Int)]) s1 hpa
        refine ⟨q1, pa, _, _, rfl, rfl, s2 _ _ hq1, upd_same, Nat.le_of_lt (sz_lt (by rw [iV_len]; show e.2.2.length + 1 < 100000; omega)), fun p2 H2 s3 h2 => ?_⟩
        have h2' : H2 p2 = some (.tup (iV (e.2.2 ++ [(o : Int)]))) := by
          rw [h2, iV_app]
          rfl
        refine ⟨p2, _, rfl, SqT.of h2', by rw [List.length_append, List.length_singleton]; omega, fun ns p3 n1 n2 hp3 => ?_⟩
        have en : ns = isort (e.2.2 ++ [(o : Int)]) := isort_eq n1 n2
        refine ⟨p3, _, rfl, .inl ⟨SqL.of upd_same, fun p4 hp4 => ⟨sz3, fun p5 hp5 => ?_⟩⟩⟩
        have s13 := (same_new (o := .tup [.int (o : Int)]) hpa).trans s3
        have s4 := same_snew (o := .tup [fV e.1, .int e.2.1, .ref p4]) (same_snew (o := .tup (iV ns)) (same_snew (o := .lst (iV ns)) s13 hp3) hp4) hp5
        have w5 := s4 _ _ (upd_same (H := H) (a := sl) (o := .lst ys))
        refine ⟨_, rfl, _, rfl, t, _, 1, _, rfl, rfl, SqT.of (s4 _ _ ht), rfl, sl, ys, (d : Int), d, rfl, rfl, w5, ixN_nat (by rw [hln]; exact hok.1), ?_⟩
        have s6 := same_upd (o := .lst (ys.set d (.ref p5))) (s1.trans s4) hsl
        have w4 : sl ≠ p4 := ne_of_none (same_snew (o := .lst (iV ns)) s13 hp3 _ _ (upd_same (H := H) (a := sl) (o := .lst ys))) hp4
        have w5' : sl ≠ p5 := ne_of_none (same_snew (o := .tup (iV ns)) (same_snew (o := .lst (iV ns)) s13 hp3) hp4 _ _ (upd_same (H := H) (a := sl) (o := .lst ys))) hp5
        have w45 : p4 ≠ p5 := ne_of_none upd_same hp5
        refine ⟨s6, ys.set d (.ref p5), _, _, _, rfl, upd_same, ?_⟩
        rw [hset]
        refine (hd.same s6).set d ⟨p5, p4, rfl, ?_, ?_⟩
        · rw [upd_ne w5'.symm, upd_same]
        · rw [upd_ne w4.symm, upd_ne w45, upd_same, en]
    · rintro σ H1 ⟨s2, zs, v7, v8, v9, rfl, hz, hzd⟩
      have hstl := step_len (head := head) (ds := ds) w
      refine ⟨_, rfl, _, rfl, _, rfl, head, more w, rfl, rfl, _, rfl, _, rfl, sl, zs, stepD head ds w, rfl, hz, hzd, by omega, fasc_step W hok, fun H2 o s3 ho => ?_⟩
      refine ⟨sl, o, zs, stepD head ds w, agedL (stepD head ds w), rfl, s3 _ _ hz, hzd.same s3, ho, agedL_nodup _, agedL_inR _, by omega, step_waits W hok, fun H3 p' us s4 hp' hus => ?_⟩
      refine ⟨sz3, fun pp hpp => ?_⟩
      have s5 := same_new (o := .tup [.int cells, .int (head + more w), .ref p']) hpp
      exact q _ pp p' us (s2.trans (s3.trans (s4.trans s5))) upd_same (s5 _ _ hp') (hus.same s5)

end
end Rc
set_option maxHeartbeats 4000000
namespace Rc
open PySem PySem.Spec PyProof.Rows L2
section
variable {P : Program} {w : World} {K : PySem.W.Frag} {mg : Str → Option Value} {base : Heap} {C D : Addr}
/-! the law's _law_wish, _law_deep, _law_odd, _law_is_whole -/
/-- kinds so many deep, the tuples short -/
def Kz (C : Addr) : Nat → Hp → V → Prop
  | 0, H, v => Kb C H v
  | n + 1, H, v => Kb C H v ∧ ∀ a xs, v = .ref a → H a = some (.tup xs) → xs.length ≤ 1000 ∧ ∀ y ∈ xs, Kz C n H y
theorem Kz.kb {C : Addr} {H : Hp} : ∀ {n : Nat} {v : V}, Kz C n H v → Kb C H v
  | 0, _, h => h
  | _ + 1, _, h => h.1
theorem Kz.kn {C : Addr} {H : Hp} : ∀ {n : Nat} {v : V}, Kz C n H v → Kn C n H v
  | 0, _, h => h
  | _ + 1, _, h => ⟨h.1, fun a xs e q y hy => ((h.2 a xs e q).2 y hy).kn⟩
theorem Kz.down {C : Addr} {H : Hp} : ∀ {n : Nat} {v : V}, Kz C (n + 1) H v → Kz C n H v
  | 0, _, h => h.1
  | n + 1, _, h => ⟨h.1, fun a xs e q => ⟨(h.2 a xs e q).1, fun y hy => ((h.2 a xs e q).2 y hy).down⟩⟩
/-- from heap to heap: what is there stays, but for a list at h -/
theorem Kb.draw {C : Addr} {H H' : Hp} {h c : Addr} (x : HandC H h c) (x' : HandC H' h c) (s : Same (No h H) (No h H')) : ∀ {v : V}, Kb C H v → Kb C H' v
  | .non, h => h
  | .bl _, h => h
  | .int _, h => h
  | .str _, h => h
  | .ref a, k => by
    by_cases e : a = h
    · obtain ⟨l, hl⟩ := x'.ls
      rw [e]
      exact .inr (.inl ⟨l, hl⟩)
    · rcases k with ⟨xs, z⟩ | ⟨xs, z⟩ | ⟨kvs, z⟩ | ⟨dx, fs, z⟩
      · exact .inl ⟨xs, no_keep s z e⟩
      · exact .inr (.inl ⟨xs, no_keep s z e⟩)
      · exact .inr (.inr (.inl ⟨kvs, no_keep s z e⟩))
      · exact .inr (.inr (.inr ⟨dx, fs, no_keep s z e⟩))
  | .byt _, h => h
  | .flt _, h => h
  | .ty _, h => h
theorem kb_tup {C : Addr} {H H' : Hp} {a : Addr} {xs : List V} (k : Kb C H (.ref a)) (keep : ∀ o, H a = some o → H' a = some o) (e : H' a = some (.tup xs)) : H a = some (.tup xs) := by
  rcases k with ⟨ys, z⟩ | ⟨ys, z⟩ | ⟨kvs, z⟩ | ⟨dx, fs, z⟩ <;>
  · have := keep _ z
    rw [e] at this
    cases this
    first | exact z | done
theorem Kz.draw {C : Addr} {H H' : Hp} {h c : Addr} (x : HandC H h c) (x' : HandC H' h c) (s : Same (No h H) (No h H')) : ∀ {n : Nat} {v : V}, Kz C n H v → Kz C n H' v
  | 0, _, k => Kb.draw x x' s k
  | n + 1, v, k => by
    refine ⟨Kb.draw x x' s k.1, fun a xs e q => ?_⟩
    have hk := k.1
    rw [e] at hk
    have ne := tup_ne x' q
    have q0 := kb_tup hk (fun o z => no_keep s z ne) q
    exact ⟨(k.2 a xs e q0).1, fun y hy => Kz.draw x x' s ((k.2 a xs e q0).2 y hy)⟩
theorem Kz.same {C : Addr} {H H' : Hp} (s : Same H H') : ∀ {n : Nat} {v : V}, Kz C n H v → Kz C n H' v
  | 0, _, k => Kb.same s k
  | n + 1, v, k => by
    refine ⟨Kb.same s k.1, fun a xs e q => ?_⟩
    have hk := k.1
    rw [e] at hk
    have q0 := kb_tup hk (fun o z => s _ _ z) q
    exact ⟨(k.2 a xs e q0).1, fun y hy => Kz.same s ((k.2 a xs e q0).2 y hy)⟩
theorem kz_flat {C : Addr} {H : Hp} : ∀ {n : Nat} {v : V}, flatV v = true → Kz C n H v
  | 0, v, f => by cases v <;> first | exact True.intro | cases f
  | n + 1, v, f => ⟨(by cases v <;> first | exact True.intro | cases f), fun a xs e q => by
    rw [e] at f
    cases f⟩
theorem kz_tup {C : Addr} {H : Hp} {a : Addr} {xs : List V} {n : Nat} (e : H a = some (.tup xs)) (hl : xs.length ≤ 1000) (h : ∀ y ∈ xs, Kz C n H y) : Kz C (n + 1) H (.ref a) :=
  ⟨.inl ⟨xs, e⟩, fun b ys q z => by
    cases q
    rw [e] at z
    cases z
    exact ⟨hl, h⟩⟩
theorem kz_lst {C : Addr} {H : Hp} {a : Addr} {xs : List V} (e : H a = some (.lst xs)) : ∀ n, Kz C n H (.ref a)
  | 0 => .inr (.inl ⟨xs, e⟩)
  | _ + 1 => ⟨.inr (.inl ⟨xs, e⟩), fun b ys q z => by
    cases q
    rw [e] at z
    cases z⟩
theorem kz_dct {C : Addr} {H : Hp} {a : Addr} {kvs : List (Key × V)} (e : H a = some (.dK kvs)) : ∀ n, Kz C n H (.ref a)
  | 0 => .inr (.inr (.inl ⟨kvs, e⟩))
  | _ + 1 => ⟨.inr (.inr (.inl ⟨kvs, e⟩)), fun b ys q z => by
    cases q
    rw [e] at z
    cases z⟩
theorem kz_ins {C : Addr} {H : Hp} {a dx : Addr} {fs : List (Str × V)} (e : H a = some (.ins C dx fs)) : ∀ n, Kz C n H (.ref a)
  | 0 => .inr (.inr (.inr ⟨dx, fs, e⟩))
  | _ + 1 => ⟨.inr (.inr (.inr ⟨dx, fs, e⟩)), fun b ys q z => by
    cases q
    rw [e] at z
    cases z⟩
theorem or_val {t u : TT} {σ : L2.St} {H : Hp} {Q : Bool → Hp → Prop} (b1 b2 : Bool) (h1 : ∀ R : Bool → Hp → Prop, R b1 H → t σ H R) (h2 : ∀ R : Bool → Hp → Prop, R b2 H → u σ H R) (q : Q (b1 || b2) H) : tOr t u σ H Q := by
  refine h1 _ ?_
  cases b1 with
  | true => exact iteT q
  | false => exact iteF (h2 _ q)
theorem and_val {t u : TT} {σ : L2.St} {H : Hp} {Q : Bool → Hp → Prop} (b1 b2 : Bool) (h1 : ∀ R : Bool → Hp → Prop, R b1 H → t σ H R) (h2 : ∀ R : Bool → Hp → Prop, R b2 H → u σ H R) (q : Q (b1 && b2) H) : tAnd t u σ H Q := by
  refine h1 _ ?_
  cases b1 with
  | true => exact iteT (h2 _ q)
  | false => exact iteF q
def spWish (C : Addr) : Sp := fun vs H Q _ => ∃ (h c p q : Addr) (most cells head : Int) (ys : List V) (ds : List Deed), vs = [.ref h, .ref p, .int most, .bl true] ∧ HandC H h c ∧ 0 < most ∧ most ≤ 1000 ∧ H p = some (.tup [.int cells, .int head, .ref q]) ∧ H q = some (.tup ys) ∧ DsAt H ys ds ∧ Ld head ds ∧
  ∀ (H' : Hp) (t : Addr) (xs : List V), HandC H' h c → Same (No h H) (No h H') → H' t = some (.tup xs) → Kz C 2 H' (.ref t) → 3 ≤ xs.length → xs.length ≤ 4 → Q (.ref t) H'
theorem kz_all {C : Addr} {H : Hp} {a : Addr} {xs : List V} {n : Nat} (e : H a = some (.tup xs)) (hl : xs.length ≤ 1000) (h : xs.all flatV = true) : Kz C (n + 1) H (.ref a) :=
  kz_tup e hl fun y hy => kz_flat (List.all_eq_true.mp h y hy)
theorem c_l_wish {f : Addr} (T : Txt K w mg C D) (df : Df K mg "_law_wish" s_l_wish f) (c_l_draw : Cal P w K mg base 1 "_law_draw" (spDraw)) (c_l_closure : Cal P w K mg base 1 "_law_closure" (spClosure))  : CalF P w K mg base 2 f "_law_wish" (spWish C) := by
  refine calF_of df sc_l_wish (fun vs H Q E h => ?_) (fun _ _ _ _ _ _ us hl => match us, hl with | [_, _, _, _], _ => rfl) (fun cdv A outer s H vs Q E hr h => ?_)
  · obtain ⟨h, c, p, q, most, cells, head, ys, ds, rfl, _⟩ := h
    rfl
  · obtain ⟨h, c, p, qa, most, cells, head, ys, ds, rfl, hH, m0, m1, hp, hqa, hd, L, q⟩ := h
    refine ⟨_, (pss_cons (ps_asg (pv 1) (pg_tup (by rfl) (pgs_cons (pg_name (i := 4) sc_l_wish.nd rfl (Or.inl rfl)) (pgs_cons (pg_name (i := 5) sc_l_wish.nd rfl (Or.inl rfl)) (pgs_cons (pg_name (i := 6) sc_l_wish.nd rfl (Or.inr rfl)) pgs_nil))))) (pss_cons (ps_set (i := 7) sc_l_wish.nd rfl (Or.inl rfl) (pe_callB call_len_seq (by rfl) T.b_len bt_len (pa_cons (pv 6) pa_nil))) (pss_cons (ps_set (i := 8) sc_l_wish.nd rfl (Or.inl rfl) (pe_u c_l_draw hr (by decide) (by rfl) (pa_cons (pv 0) (pa_cons pe_int pa_nil)))) (pss_cons (ps_if (PW.pt (pw_or (pt_cmpR op_eq (pv 7) pe_int (nomark _)) (pw_or1 (pt_cmpR op_eq (pv 8) pe_int (nomark _))))) (pss_cons (ps_set (i := 9) sc_l_wish.nd rfl (Or.inl rfl) (pe_callTy call_tuple_of (by rfl) T.b_tuple bt_tuple (pa_cons (pe_lc rfl sc_l_wish.nd (pi_range1 (by rfl) T.b_range (pa_cons (pv 7) pa_nil)) (blkOk_by (own := [("_law_deed", 10)]) (N := N_l_wish) (sc := defScope s_l_wish) (by decide +kernel)) (fun _ _ _ _ _ => (pg_name (i := 10) sc_l_wish.nd rfl (Or.inl rfl))) (fun _ _ _ _ _ => (pts_one (PW.pt (pw_and (pt_val (pv 3)) (pw_and1 (pt_cmpR op_eq (pe_u c_l_draw hr (by decide) (by rfl) (pa_cons (pv 0) (pa_cons pe_int pa_nil))) pe_int (nomark _))))))) (fun _ _ _ _ _ => (pv 10))) pa_nil))) (pss_one (ps_ret (pe_tup (pa_cons pe_str (pa_cons (pe_u c_l_draw hr (by decide) (by rfl) (pa_cons (pv 0) (pa_cons (pv 2) pa_nil))) (pa_cons (pe_u c_l_draw hr (by decide) (by rfl) (pa_cons (pv 0) (pa_cons (pv 2) pa_nil))) (pa_cons (pv 9) pa_nil)))))))) pss_nil) (pss_cons (ps_set (i := 10) sc_l_wish.nd rfl (Or.inr rfl) (pe_u c_l_draw hr (by decide) (by rfl) (pa_cons (pv 0) (pa_cons (pv 7) pa_nil)))) (Evl.pss_cut (ps_if (PW.pt (pw_and (pt_cmpR op_eq (pv 8) pe_int (nomark _)) (pw_and1 (pt_val (pv 3))))) (pss_cons (ps_setLc (i := 11) rfl sc_l_wish.nd rfl rfl (sw_true rfl rfl rfl (by decide +kernel)) (pi_range1 (by rfl) T.b_range (pa_cons (pv 7) pa_nil)) (blkOk_by (own := [("_law_other", 14)]) (N := N_l_wish) (sc := defScope s_l_wish) (by decide +kernel)) (fun _ _ _ _ _ => (pg_name (i := 14) sc_l_wish.nd rfl (Or.inl rfl))) (fun _ _ _ _ _ => (pts_one (PW.pt (pw_and (pt_cmpR (ninS_K K rfl) (pv 14) (pe_u c_l_closure hr (by decide) (by rfl) (pa_cons (pv 6) (pa_cons (pe_lst (pa_cons (pv 10) pa_nil)) pa_nil))) (by rfl)) (pw_and1 (pt_cmpR (ninS_K K rfl) (pv 10) (pe_u c_l_closure hr (by decide) (by rfl) (pa_cons (pv 6) (pa_cons (pe_lst (pa_cons (pv 14) pa_nil)) pa_nil))) (by rfl))))))) (fun _ _ _ _ _ => (pv 14))) (pss_one (ps_if (pt_cmpR op_gt (pe_callB call_len_seq (by rfl) T.b_len bt_len (pa_cons (pv 11) pa_nil)) pe_int (nomark _)) (pss_one (ps_ret (pe_tup (pa_cons pe_str (pa_cons (pv 10) (pa_cons (pe_ix ix_list (pv 11) (pe_u c_l_draw hr (by decide) (by rfl) (pa_cons (pv 0) (pa_cons (pe_callB call_len_seq (by rfl) T.b_len bt_len (pa_cons (pv 11) pa_nil)) pa_nil))) (fun _ _ => rfl)) pa_nil)))))) pss_nil))) pss_nil) (pss_cons (ps_set (i := 12) sc_l_wish.nd rfl (Or.inl rfl) (pe_op op_add pe_int (pe_u c_l_draw hr (by decide) (by rfl) (pa_cons (pv 0) (pa_cons (pv 2) pa_nil))))) (pss_cons (ps_set (i := 13) sc_l_wish.nd rfl (Or.inl rfl) (pe_ix ix_tup (pe_ix ix_tup (pv 6) (pv 10) (fun _ _ => rfl)) pe_int (fun _ _ => rfl))) (pss_cons (ps_if (pt_cmpR op_eq (pe_u c_l_draw hr (by decide) (by rfl) (pa_cons (pv 0) (pa_cons pe_int pa_nil))) pe_int (nomark _)) (pss_cons (ps_set (i := 12) sc_l_wish.nd rfl (Or.inl rfl) (pe_callB (call_min2 rfl) (by rfl) T.b_min bt_min (pa_cons (pv 12) (pa_cons (pe_callB (call_max2 rfl) (by rfl) T.b_max bt_max (pa_cons pe_int (pa_cons (pv 13) pa_nil))) pa_nil)))) (pss_one (ps_ret (pe_tup (pa_cons pe_str (pa_cons (pv 10) (pa_cons (pv 12) (pa_cons (pe_callB (call_max2 rfl) (by rfl) T.b_max bt_max (pa_cons pe_int (pa_cons (pe_op op_sub (pv 13) (pv 12)) pa_nil))) pa_nil)))))))) pss_nil) (pss_one (ps_ret (pe_tup (pa_cons pe_str (pa_cons (pv 10) (pa_cons (pv 12) (pa_cons (pe_u c_l_draw hr (by decide) (by rfl) (pa_cons (pv 0) (pa_cons (pe_op op_add (pv 2) (pv 13)) pa_nil))) pa_nil)))))))))))))))), ?_⟩
    have hln := hd.len
    have hn7 := L.n7
    refine ⟨_, rfl, p, _, rfl, SqT.of hp, rfl, _, _, rfl, _, _, rfl, _, _, rfl, rfl, ?_⟩
    refine ⟨_, rfl, qa, ys, rfl, .inr (SqT.of hqa), ?_⟩
    refine ⟨_, rfl, h, c, 4, rfl, hH, by decide, by decide, fun H1 kd hH1 s1 k0 k1 => ?_⟩
    have hqa1 := tup_keep hH s1 hqa
    have hd1 := hd.draw hH s1
    refine ⟨_, rfl, rfl, _, rfl, ite2 (fun hb => ?br1) (fun hb => ⟨_, rfl, rfl, _, rfl, ite2 (fun hb2 => ?br2) (fun hb2 => ?rest)⟩)⟩
    case br1 | br2 =>
      refine ⟨_, rfl, _, rfl, by omega, by omega, fun Dl hDl => lc_range (fun i H' => HandC H' h c ∧ Same (No h H1) (No h H') ∧ ∃ ms : List Int, H' Dl = some (.lst (iV ms)) ∧ ms.length ≤ i)
        ⟨hH1.same (same_new hDl), no_new hDl, [], upd_same, Nat.le_refl _⟩ ?_ ?_⟩
      · have hDlh := hH1.nn hDl
        have hDlc := hH1.nc hDl
        rintro i H2 hi ⟨hH2, s2, ms, hm, hml⟩
        refine ⟨rfl, ?_⟩
        refine ⟨_, rfl, true, rfl, iteT ?_⟩
        refine ⟨_, rfl, h, c, 5, rfl, hH2, by decide, by decide, fun H3 r hH3 s3 r0 r1 => ⟨rfl, _, rfl, ?_⟩⟩
        have hm3 := no_keep s3 hm hDlh
        refine ite2 (fun hb => ?_) (fun hb => ?_)
        · exact ⟨_, rfl, iV ms, hm3, sz_lt (by rw [iV_len]; omega), hH3.upd hDlh hDlc, no_upd (s2.trans s3) hDl, ms ++ [0 + (i : Int)], by rw [upd_same, iV_app]; rfl, by rw [List.length_append]; show ms.length + 1 ≤ i + 1; omega⟩
        · exact ⟨hH3, s2.trans s3, ms, hm3, by omega⟩
      · have hDlh := hH1.nn hDl
        rintro H2 ⟨hH2, s2, ms, hm, hml⟩
        refine ⟨Dl, _, rfl, .inl ⟨SqL.of hm, fun t1 ht1 => ?_⟩⟩
        have s3 := same_new (o := .tup (iV ms)) ht1
        have hH3 := hH2.same s3
        refine ⟨_, rfl, _, rfl, h, c, most, rfl, hH3, m0, by omega, fun H4 a hH4 s4 a0 a1 => ?_⟩
        refine ⟨_, rfl, _, rfl, h, c, most, rfl, hH4, m0, by omega, fun H5 b hH5 s5 b0 b1 => ?_⟩
        refine ⟨_, rfl, sz4, fun t2 ht2 => ?_⟩
        have s6 := same_new (o := .tup [.str "open", .int a, .int b, .ref t1]) ht2
        have h5 := tup_keep hH3 (s4.trans s5) (upd_same (H := H2) (a := t1) (o := .tup (iV ms)))
        refine q _ t2 [.str "open", .int a, .int b, .ref t1] (hH5.same s6) ((((s1.trans s2).trans (same_no s3 h)).trans (s4.trans s5)).trans (same_no s6 h)) upd_same (kz_tup upd_same (by decide : 4 ≤ 1000) fun y hy => ?_) (by decide : 3 ≤ 4) (by decide : 4 ≤ 4)
        rcases List.mem_cons.mp hy with e | hy
        · rw [e]; exact kz_flat rfl
        rcases List.mem_cons.mp hy with e | hy
        · rw [e]; exact kz_flat rfl
        rcases List.mem_cons.mp hy with e | hy
        · rw [e]; exact kz_flat rfl
        rcases List.mem_cons.mp hy with e | hy
        · rw [e]
          exact kz_all (s6 _ _ h5) (by rw [iV_len]; omega) (all_flat ms)
        · cases hy
    case rest =>
      have hn0 : 0 < ds.length := by
        refine Nat.pos_of_ne_zero fun z => hb (decide_eq_true ?_)
        rw [hln, z]
        rfl
      refine ⟨_, rfl, _, rfl, h, c, _, rfl, hH1, by omega, by omega, fun H2 d hH2 s2 d0 d1 => ?_⟩
      obtain ⟨dn, rfl⟩ : ∃ dn : Nat, d = (dn : Int) := ⟨d.toNat, by omega⟩
      have hqa2 := tup_keep hH1 s2 hqa1
      have hd2 := hd1.draw hH1 s2
      have s12 := s1.trans s2
      refine ⟨fun σ' H' => HandC H' h c ∧ Same (No h H) (No h H') ∧ ∃ (v9 v11 v12 v13 v14 : Option V), σ' = [some (.ref h), some (.ref p), some (.int most), some (.bl true), some (.int cells), some (.int head), some (.ref qa), some (.int ((ys.length : Nat) : Int)), some (.int kd), v9, some (.int (dn : Int)), v11, v12, v13, v14], ?_, ?_⟩
      · refine ⟨_, rfl, rfl, _, rfl, ite2 (fun hb => ⟨_, rfl, true, rfl, ?w1⟩) (fun hb => ?w2)⟩
        · refine ⟨_, rfl, _, rfl, by omega, by omega, fun Dl hDl => lc_range (fun i H' => Same H2 H' ∧ ∃ ms : List Int, H' Dl = some (.lst (iV ms)) ∧ ms.length ≤ i)
            ⟨same_new hDl, [], upd_same, Nat.le_refl _⟩ ?_ ?_⟩
          · rintro i H3 hi ⟨s3, ms, hm, hml⟩
            have hi2 : i < ds.length := by omega
            refine ⟨rfl, ?_⟩
            refine ⟨_, rfl, _, rfl, _, rfl, sz1, fun l1 hl1 => ?_⟩
            have s4 := same_new (o := .lst [.int (dn : Int)]) hl1
            have s34 := s3.trans s4
            refine ⟨qa, l1, ys, ds, [(dn : Int)], rfl, s34 _ _ hqa2, hd2.same s34, upd_same, by simp, (by decide : 1 ≤ 7), ?_, hn7, L.wf.good.inr, L.wf.good.asc, fun H5 p5 L5 s5 h5 _ _ => ?_⟩
            · intro x hx
              rw [List.mem_singleton.mp hx]
              omega
            refine ⟨p5, _, rfl, .inr (SqT.of h5), rfl, all_flat _, _, rfl, ?_⟩
            refine ite2 (fun hb1 => ?_) (fun hb1 => ?_)
            · refine ⟨_, rfl, _, rfl, _, rfl, sz1, fun l2 hl2 => ?_⟩
              have s6 := same_new (o := .lst [.int (0 + (i : Int))]) hl2
              have s36 := s34.trans (s5.trans s6)
              refine ⟨qa, l2, ys, ds, [0 + (i : Int)], rfl, s36 _ _ hqa2, hd2.same s36, upd_same, by simp, (by decide : 1 ≤ 7), ?_, hn7, L.wf.good.inr, L.wf.good.asc, fun H7 p7 L7 s7 h7 _ _ => ?_⟩
              · intro x hx
                rw [List.mem_singleton.mp hx]
                omega
              have hm7 := (s4.trans (s5.trans (s6.trans s7))) _ _ hm
              refine ⟨p7, _, rfl, .inr (SqT.of h7), rfl, all_flat _, _, rfl, ?_⟩
              refine ite2 (fun hb2 => ?_) (fun hb2 => ?_)
              · exact ⟨_, rfl, iV ms, hm7, sz_lt (by rw [iV_len]; omega), same_upd (s36.trans s7) hDl, ms ++ [0 + (i : Int)], by rw [upd_same, iV_app]; rfl, by rw [List.length_append]; show ms.length + 1 ≤ i + 1; omega⟩
              · exact ⟨s36.trans s7, ms, hm7, by omega⟩
            · exact iteF ⟨s34.trans s5, ms, (s4.trans s5) _ _ hm, by omega⟩
          · rintro H3 ⟨s3, ms, hm, hml⟩
            have hH3 := hH2.same s3
            refine ⟨_, rfl, Dl, _, rfl, .inl (SqL.of hm), _, 0, rfl, rfl, _, rfl, ite2 (fun hb1 => ?_) (fun hb1 => ?_)⟩
            · have hb3 : (0 : Int) < ((iV ms).length : Nat) := of_decide_eq_true hb1
              rw [iV_len] at hb3
              have hDlh := hH2.nn hDl
              refine ⟨_, rfl, _, rfl, _, rfl, _, rfl, Dl, _, rfl, .inl (SqL.of hm), h, c, _, rfl, hH3, by rw [iV_len]; exact hb3, by rw [iV_len]; omega, fun H4 r hH4 s4 r0 r1 => ?_⟩
              rw [iV_len] at r1
              obtain ⟨x, hx, hxa⟩ := pick_at r0 r1
              refine ⟨Dl, _, r, .int x, rfl, rfl, SqL.of (no_keep s4 hm hDlh), hxa, sz3, fun t ht => ?_⟩
              have s5 := same_new (o := .tup [.str "wait", .int (dn : Int), .int x]) ht
              exact q _ t _ (hH4.same s5) (((s12.trans (same_no s3 h)).trans s4).trans (same_no s5 h)) upd_same (kz_all upd_same (by decide : 3 ≤ 1000) rfl) (by decide : 3 ≤ 3) (by decide : 3 ≤ 4)
            · exact ⟨hH3, s12.trans (same_no s3 h), _, _, _, _, _, rfl⟩
        · exact ⟨hH2, s12, _, _, _, _, _, rfl⟩
      · rintro σ H3 ⟨hH3, s3, v9, v11, v12, v13, v14, rfl⟩
        have hqa3 := tup_keep hH s3 hqa
        have hd3 := hd.draw hH s3
        refine ⟨_, rfl, _, rfl, h, c, most, rfl, hH3, m0, by omega, fun H4 r hH4 s4 r0 r1 => ⟨1, r, rfl, rfl, ?_⟩⟩
        have hqa4 := tup_keep hH3 s4 hqa3
        have hd4 := hd3.draw hH3 s4
        obtain ⟨v, e, e1, e2, p1, q1, rfl, hp1, hq1⟩ := hd4.get (i := dn) (by omega)
        have hem := List.mem_of_getElem? e2
        have nd0 := (L.wf.need e hem).1
        have nd1 := L.nd e hem
        refine ⟨_, rfl, _, rfl, qa, ys, (dn : Int), .ref p1, rfl, rfl, SqT.of hqa4, atI_nat e1, p1, _, 1, .int e.2.1, rfl, rfl, SqT.of hp1, rfl, ?_⟩
        refine ⟨_, rfl, h, c, 2, rfl, hH4, by decide, by decide, fun H5 u hH5 s5 u0 u1 => ⟨rfl, _, rfl, ?_⟩⟩
        have s35 := (s3.trans s4).trans s5
        refine ite2 (fun hb => ?_) (fun hb => ?_)
        · refine ⟨_, rfl, _, rfl, 1, e.2.1, rfl, _, _, rfl, ?_⟩
          refine ⟨_, rfl, _, rfl, _, rfl, _, rfl, _, _, rfl, rfl, 0, _, rfl, sz4, fun t ht => ?_⟩
          exact q _ t _ (hH5.same (same_new ht)) (s35.trans (no_new ht)) upd_same (kz_all upd_same (by decide : 4 ≤ 1000) rfl) (by decide : 3 ≤ 4) (by decide : 4 ≤ 4)
        · refine ⟨_, rfl, _, rfl, _, rfl, _, rfl, _, rfl, most, e.2.1, rfl, rfl, h, c, _, rfl, hH5, by omega, by omega, fun H6 z hH6 s6 z0 z1 => ⟨sz4, fun t ht => ?_⟩⟩
          exact q _ t _ (hH6.same (same_new ht)) ((s35.trans s6).trans (no_new ht)) upd_same (kz_all upd_same (by decide : 4 ≤ 1000) rfl) (by decide : 3 ≤ 4) (by decide : 4 ≤ 4)

end
end Rc
set_option maxHeartbeats 4000000
namespace Rc
open PySem PySem.Spec PyProof.Rows L2
section
variable {P : Program} {w : World} {K : PySem.W.Frag} {mg : Str → Option Value} {base : Heap} {C D : Addr}
/-! the law's _law_deep, _law_odd, _law_is_whole, _law_is_lot -/
def spDeep (C : Addr) : Sp := fun vs H Q _ => ∃ k : Int, vs = [.int k] ∧ 0 ≤ k ∧ k < 3 ∧ ∀ (H' : Hp) (x : V), Same H H' → Kz C 2 H' x → Q x H'
theorem pick_V {xs : List V} {r : Int} (h0 : 0 ≤ r) (h1 : r < (xs.length : Nat)) : ∃ x ∈ xs, atI xs r = some x := by
  have hk : r.toNat < xs.length := by omega
  have e : ((r.toNat : Nat) : Int) = r := by omega
  refine ⟨xs[r.toNat], List.getElem_mem hk, ?_⟩
  have := atI_nat (xs := xs) (j := r.toNat) (v := xs[r.toNat]) (List.getElem?_eq_getElem hk)
  rw [e] at this
  exact this
theorem c_l_deep {f : Addr} (T : Txt K w mg C D) (df : Df K mg "_law_deep" s_l_deep f)   : CalF P w K mg base 1 f "_law_deep" (spDeep C) := by
  refine calF_of df sc_l_deep (fun vs H Q E h => ?_) (fun _ _ _ _ _ _ us hl => match us, hl with | [_], _ => rfl) (fun cdv A outer s H vs Q E hr h => ?_)
  · obtain ⟨k, rfl, _⟩ := h
    rfl
  · obtain ⟨k, rfl, k0, k1, q⟩ := h
    refine ⟨_, (pss_cons (ps_set (i := 1) sc_l_deep.nd rfl (Or.inl rfl) (pe_tup pa_nil)) (pss_cons (ps_for PassesOwn.never rfl (pi_range1 (by rfl) T.b_range (pa_cons pe_int pa_nil)) (pg_name (i := 2) sc_l_deep.nd rfl (Or.inl rfl)) (pss_one (ps_set (i := 1) sc_l_deep.nd rfl (Or.inl rfl) (pe_ix ix_list (pe_lst (pa_cons (pe_tup (pa_cons (pe_tup (pa_cons (pv 1) pa_nil)) pa_nil)) (pa_cons (pe_lst (pa_cons (pe_lst (pa_cons (pv 1) pa_nil)) pa_nil)) (pa_cons (pe_tup (pa_cons pe_str (pa_cons (pe_lst (pa_cons (pv 1) pa_nil)) pa_nil))) pa_nil)))) (pv 0) (fun _ _ => rfl))))) (pss_one (ps_ret (pv 1))))), ?_⟩
    refine ⟨Nat.zero_le _, fun p0 hp0 => ?_⟩
    refine ⟨18, rfl, by decide, by decide, for_range (fun i σ H' => Same H H' ∧ ∃ (x : V) (v2 : Option V), σ = [some (.int k), some x, v2] ∧ Kz C 2 H' x)
      ⟨same_new hp0, .ref p0, none, rfl, kz_tup upd_same (by decide : 0 ≤ 1000) fun y hy => by cases hy⟩ ?_ ?_⟩
    · rintro i σ H1 hi ⟨s1, x, v2, rfl, kx⟩
      refine ⟨_, rfl, sz1, fun a1 h1 => ⟨sz1, fun a2 h2 => ?_⟩⟩
      have t1 := same_new (o := .tup [x]) h1
      have t2 := same_new (o := .tup [.ref a1]) h2
      refine ⟨_, rfl, sz1, fun a3 h3 => ⟨sz1, fun a4 h4 => ?_⟩⟩
      have t3 := same_new (o := .lst [x]) h3
      have t4 := same_new (o := .lst [.ref a3]) h4
      refine ⟨_, rfl, sz1, fun a5 h5 => ⟨sz2, fun a6 h6 => ?_⟩⟩
      have t5 := same_new (o := .lst [x]) h5
      have t6 := same_new (o := .tup [.str "rows", .ref a5]) h6
      refine ⟨sz3, fun a7 h7 => ?_⟩
      have t7 := same_new (o := .lst [.ref a2, .ref a4, .ref a6]) h7
      have kA : Kz C 2 _ (.ref a2) := Kz.same (t3.trans (t4.trans (t5.trans (t6.trans t7)))) (kz_tup (upd_same (a := a2) (o := .tup [.ref a1])) (by decide : 1 ≤ 1000) fun y hy => by
        rw [List.mem_singleton.mp hy]
        exact Kz.same t2 (kz_tup upd_same (by decide : 1 ≤ 1000) fun z hz => by
          rw [List.mem_singleton.mp hz]
          exact (Kz.same t1 kx).kb))
      have kB : Kz C 2 _ (.ref a4) := kz_lst ((t5.trans (t6.trans t7)) _ _ (upd_same (a := a4) (o := .lst [.ref a3]))) 2
      have kC : Kz C 2 _ (.ref a6) := Kz.same t7 (kz_tup (upd_same (a := a6) (o := .tup [.str "rows", .ref a5])) (by decide : 2 ≤ 1000) fun y hy => by
        rcases List.mem_cons.mp hy with e | hy
        · rw [e]
          exact kz_flat rfl
        · rw [List.mem_singleton.mp hy]
          exact kz_lst (t6 _ _ upd_same) 1)
      obtain ⟨y, hy, hya⟩ := pick_V (xs := [.ref a2, .ref a4, .ref a6]) k0 k1
      refine ⟨_, rfl, a7, _, k, y, rfl, rfl, SqL.of upd_same, hya, ?_⟩
      refine ⟨s1.trans (t1.trans (t2.trans (t3.trans (t4.trans (t5.trans (t6.trans t7)))))), y, _, rfl, ?_⟩
      rcases List.mem_cons.mp hy with e | hy
      · rw [e]
        exact kA
      rcases List.mem_cons.mp hy with e | hy
      · rw [e]
        exact kB
      · rw [List.mem_singleton.mp hy]
        exact kC
    · rintro σ H1 ⟨s1, x, v2, rfl, kx⟩
      exact ⟨_, rfl, q _ x s1 kx⟩
def spOdd (C : Addr) : Sp := fun vs H Q _ => ∃ (h c : Addr) (x : V), vs = [.ref h, x] ∧ HandC H h c ∧ Kz C 2 H x ∧ ∀ (H' : Hp) (y : V), HandC H' h c → Same (No h H) (No h H') → Kz C 2 H' y → Q y H'
/-- all of a list are so many deep -/
def Kzs (C : Addr) (H : Hp) (xs : List V) : Prop := ∀ y ∈ xs, Kz C 2 H y
theorem kzs_nil {C : Addr} {H : Hp} : Kzs C H [] := fun y h => by cases h
theorem kzs_cons {C : Addr} {H : Hp} {x : V} {xs : List V} (h : Kz C 2 H x) (r : Kzs C H xs) : Kzs C H (x :: xs) := fun y hy => by
  rcases List.mem_cons.mp hy with e | hy
  · rw [e]
    exact h
  · exact r y hy
theorem Kzs.same {C : Addr} {H H' : Hp} {xs : List V} (s : Same H H') (h : Kzs C H xs) : Kzs C H' xs := fun y hy => Kz.same s (h y hy)
theorem c_l_odd {f : Addr} (T : Txt K w mg C D) (df : Df K mg "_law_odd" s_l_odd f) (c_l_draw : Cal P w K mg base 1 "_law_draw" (spDraw)) (c_l_deep : Cal P w K mg base 1 "_law_deep" (spDeep C))  : CalF P w K mg base 2 f "_law_odd" (spOdd C) := by
  refine calF_of df sc_l_odd (fun vs H Q E h => ?_) (fun _ _ _ _ _ _ us hl => match us, hl with | [_, _], _ => rfl) (fun cdv A outer s H vs Q E hr h => ?_)
  · obtain ⟨h, c, x, rfl, _⟩ := h
    rfl
  · obtain ⟨h, c, x, rfl, hH, kx, q⟩ := h
    refine ⟨_, (pss_cons (ps_set (i := 2) sc_l_odd.nd rfl (Or.inl rfl) (pe_lst (pa_cons pe_non (pa_cons pe_bl (pa_cons pe_bl (pa_cons pe_int (pa_cons (pe_un un_neg pe_int) (pa_cons pe_str (pa_cons pe_str (pa_cons (pe_tup pa_nil) (pa_cons (pe_lst pa_nil) (pa_cons pe_dnewK (pa_cons (pe_tup (pa_cons pe_int pa_nil)) (pa_cons (pe_tup (pa_cons (pe_tup (pa_cons pe_int (pa_cons pe_int pa_nil))) pa_nil)) (pa_cons (pe_tup (pa_cons pe_non pa_nil)) (pa_cons (pe_op op_pow pe_int pe_int) (pa_cons (pv 1) pa_nil))))))))))))))))) (pss_one (ps_ret (pe_ix ix_list (pe_op op_cat (pv 2) (pe_lst (pa_cons (pe_u c_l_deep hr (by decide) (by rfl) (pa_cons pe_int pa_nil)) (pa_cons (pe_u c_l_deep hr (by decide) (by rfl) (pa_cons pe_int pa_nil)) (pa_cons (pe_u c_l_deep hr (by decide) (by rfl) (pa_cons pe_int pa_nil)) pa_nil))))) (pe_u c_l_draw hr (by decide) (by rfl) (pa_cons (pv 0) (pa_cons pe_int pa_nil))) (fun _ _ => rfl))))), ?_⟩
    refine ⟨1, rfl, Nat.zero_le _, fun a1 h1 => ⟨Nat.zero_le _, fun a2 h2 => fun a3 h3 => ⟨sz1, fun a4 h4 => ⟨sz2, fun a5 h5 => ⟨sz1, fun a6 h6 => ⟨sz1, fun a7 h7 => ?_⟩⟩⟩⟩⟩⟩
    have t1 := same_new (o := .tup []) h1
    have t2 := same_new (o := .lst []) h2
    have t3 := same_new (o := .dK []) h3
    have t4 := same_new (o := .tup [.int 0]) h4
    have t5 := same_new (o := .tup [.int 0, .int 1]) h5
    have t6 := same_new (o := .tup [.ref a5]) h6
    have t7 := same_new (o := .tup [.non]) h7
    refine ⟨10, 39, rfl, rfl, ⟨by decide, by decide, by decide⟩, _, rfl, (by decide : 15 ≤ sizeLine), fun l1 hl1 => ?_⟩
    have t8 := same_new (o := .lst [.non, .bl true, .bl false, .int 0, .int (-1), .str "0", .str "", .ref a1, .ref a2, .ref a3, .ref a4, .ref a6, .ref a7, .int (10 ^ (39 : Int).toNat), x]) hl1
    have ks : Kzs C _ [.non, .bl true, .bl false, .int 0, .int (-1), .str "0", .str "", .ref a1, .ref a2, .ref a3, .ref a4, .ref a6, .ref a7, .int (10 ^ (39 : Int).toNat), x] := Kzs.same t8 <| by
      refine kzs_cons (kz_flat rfl) (kzs_cons (kz_flat rfl) (kzs_cons (kz_flat rfl) (kzs_cons (kz_flat rfl) (kzs_cons (kz_flat rfl) (kzs_cons (kz_flat rfl) (kzs_cons (kz_flat rfl) (kzs_cons ?_ (kzs_cons ?_ (kzs_cons ?_ (kzs_cons ?_ (kzs_cons ?_ (kzs_cons ?_ (kzs_cons (kz_flat rfl) (kzs_cons ?_ kzs_nil))))))))))))))
      · exact kz_all ((t2.trans (t3.trans (t4.trans (t5.trans (t6.trans t7))))) _ _ upd_same) (by decide : 0 ≤ 1000) rfl
      · exact kz_lst ((t3.trans (t4.trans (t5.trans (t6.trans t7)))) _ _ upd_same) 2
      · exact kz_dct ((t4.trans (t5.trans (t6.trans t7))) _ _ upd_same) 2
      · exact kz_all ((t5.trans (t6.trans t7)) _ _ upd_same) (by decide : 1 ≤ 1000) rfl
      · refine kz_tup (t7 _ _ upd_same) (by decide : 1 ≤ 1000) fun y hy => ?_
        rw [List.mem_singleton.mp hy]
        exact kz_all ((t6.trans t7) _ _ upd_same) (by decide : 2 ≤ 1000) rfl
      · exact kz_all upd_same (by decide : 1 ≤ 1000) rfl
      · exact Kz.same (t1.trans (t2.trans (t3.trans (t4.trans (t5.trans (t6.trans t7)))))) kx
    have tH := t1.trans (t2.trans (t3.trans (t4.trans (t5.trans (t6.trans (t7.trans t8))))))
    refine ⟨_, rfl, 0, rfl, by decide, by decide, fun H1 d0 s0 k0 => ⟨1, rfl, by decide, by decide, fun H2 d1 s1 k1 => ⟨2, rfl, by decide, by decide, fun H3 d2 s2 k2 => ⟨sz3, fun l2 hl2 => ?_⟩⟩⟩⟩
    have t9 := same_new (o := .lst [d0, d1, d2]) hl2
    have s03 := s0.trans (s1.trans s2)
    refine ⟨l1, l2, _, _, rfl, rfl, (s03.trans t9) _ _ upd_same, upd_same, (by decide : 18 ≤ sizeLine), fun l3 hl3 => ?_⟩
    have t10 := same_new (o := .lst ([.non, .bl true, .bl false, .int 0, .int (-1), .str "0", .str "", .ref a1, .ref a2, .ref a3, .ref a4, .ref a6, .ref a7, .int (10 ^ (39 : Int).toNat), x] ++ [d0, d1, d2])) hl3
    have tA := tH.trans (s03.trans (t9.trans t10))
    have hHA := hH.same tA
    have hl3h := (hH.same (tH.trans (s03.trans t9))).nn hl3
    have kA : Kzs C _ ([.non, .bl true, .bl false, .int 0, .int (-1), .str "0", .str "", .ref a1, .ref a2, .ref a3, .ref a4, .ref a6, .ref a7, .int (10 ^ (39 : Int).toNat), x] ++ [d0, d1, d2]) := fun y hy => by
      rcases List.mem_append.mp hy with hy | hy
      · exact Kz.same (s03.trans (t9.trans t10)) (ks y hy)
      rcases List.mem_cons.mp hy with e | hy
      · rw [e]
        exact Kz.same (s1.trans (s2.trans (t9.trans t10))) k0
      rcases List.mem_cons.mp hy with e | hy
      · rw [e]
        exact Kz.same (s2.trans (t9.trans t10)) k1
      · rw [List.mem_singleton.mp hy]
        exact Kz.same (t9.trans t10) k2
    refine ⟨_, rfl, h, c, 18, rfl, hHA, by decide, by decide, fun H4 r hH4 s4 r0 r1 => ?_⟩
    obtain ⟨y, hy, hya⟩ := pick_V (xs := [.non, .bl true, .bl false, .int 0, .int (-1), .str "0", .str "", .ref a1, .ref a2, .ref a3, .ref a4, .ref a6, .ref a7, .int (10 ^ (39 : Int).toNat), x] ++ [d0, d1, d2]) r0 r1
    exact ⟨l3, _, r, y, rfl, rfl, SqL.of (no_keep s4 upd_same hl3h), hya, q _ y hH4 ((same_no tA h).trans s4) (Kz.draw hHA hH4 s4 (kA y hy))⟩
theorem c_l_is_whole {f : Addr} (T : Txt K w mg C D) (df : Df K mg "_law_is_whole" s_l_is_whole f)   : CalF P w K mg base 1 f "_law_is_whole" (spWithin C) := by
  refine calF_of df sc_l_is_whole (fun vs H Q E h => ?_) (fun _ _ _ _ _ _ us hl => match us, hl with | [_, _, _], _ => rfl) (fun cdv A outer s H vs Q E hr h => ?_)
  · obtain ⟨x, lo, hi, rfl, _⟩ := h
    rfl
  · obtain ⟨x, lo, hi, rfl, kx, q⟩ := h
    refine ⟨_, (pss_one (ps_ret (pe_and (pe_callB (isi_int T.ins T.kI) (by rfl) T.b_isinstance bt_isinstance (pa_cons (pv 0) (pa_cons (pe_bltn (v := .ty "int") (by rfl) T.b_int bt_int rfl) pa_nil))) (pe_and (pe_not (pe_callB (isi_bool T.ins T.kB) (by rfl) T.b_isinstance bt_isinstance (pa_cons (pv 0) (pa_cons (pe_bltn (v := .ty "bool") (by rfl) T.b_bool bt_bool rfl) pa_nil)))) (pe_one (pe_chain op_le op_le (pv 1) (pv 0) (pv 2))))))), ?_⟩
    refine ⟨_, rfl, x, rfl, kx, _, rfl, ?_⟩
    refine ite2 (fun hb => ?_) (fun hb => ?_)
    · refine ⟨_, rfl, x, rfl, kx, _, rfl, _, rfl, ?_⟩
      refine ite2 (fun hb1 => ?_) (fun hb1 => ?_)
      · have e := isI_eq x
        have hb0 : bI x = true := hb
        have hb3 : (!bB x) = true := hb1
        rw [hb0, hb3] at e
        cases x with
        | int i =>
          refine ⟨_, rfl, _, rfl, _, _, rfl, rfl, _, rfl, ?_⟩
          refine ite2 (fun h1 => ?_) (fun h1 => ?_)
          · refine ⟨_, rfl, _, _, rfl, rfl, ?_⟩
            have e : within (.int i) lo hi = decide (i ≤ hi) := by
              show (decide (lo ≤ i) && decide (i ≤ hi)) = _
              rw [h1, Bool.true_and]
            rw [e] at q
            exact q
          · have e : within (.int i) lo hi = false := by
              show (decide (lo ≤ i) && decide (i ≤ hi)) = _
              rw [Bool.eq_false_iff.mpr h1, Bool.false_and]
            rw [e] at q
            exact q
        | _ => cases e
      · have e : within x lo hi = false := by
          cases x with
          | int i => exact absurd rfl hb1
          | _ => rfl
        rw [e] at q
        exact q
    · have e : within x lo hi = false := by
        cases x with
        | int i => exact absurd rfl hb
        | _ => rfl
      rw [e] at q
      exact q
section
variable {K : PySem.W.Frag} {a b : Addr} {xs ys : List V}
theorem walk_zipT {n : Nat} (hn : n = min xs.length ys.length) : Walk (RZ.ItzT K a b) n (fun H => SqT K H a xs ∧ SqT K H b ys) (YPair (fun i => xs[i]?) (fun i => ys[i]?)) := by
  subst hn
  refine ⟨fun i _ hi q => ?_, fun _ q => ⟨xs, ys, q.1, q.2, by omega⟩, fun i H v H' _ q y => ?_⟩
  · have h1 : i < xs.length := by omega
    have h2 : i < ys.length := by omega
    exact ⟨xs, ys, xs[i], ys[i], q.1, q.2, by simp [h1], by simp [h2]⟩
  · obtain ⟨T, x, z, h1, h2, h3, h4, h5⟩ := y
    exact ⟨T, x, z, h1, h2, h3, h4 xs q.1, h5 ys q.2⟩
end
theorem cut_init (ws : List Int) : cutV (iV ws) none (some (-1)) = iV (ws.take (ws.length - 1)) := by
  unfold cutV
  have e1 : HT.sIx (iV ws).length 0 none = 0 := rfl
  have e2 : HT.sIx (iV ws).length (iV ws).length (some (-1)) = ws.length - 1 := by
    rw [iV_len]
    show (if (-1 : Int) < 0 then ((-1 : Int) + (ws.length : Nat)).toNat else min (-1 : Int).toNat ws.length) = _
    rw [if_pos (by decide)]
    omega
  rw [e1, e2, List.drop_zero, Nat.sub_zero, iV_take]
theorem cut_tail (xs : List V) : cutV xs (some 1) none = xs.drop 1 := by
  unfold cutV
  have e1 : HT.sIx xs.length 0 (some 1) = min 1 xs.length := HT.sIx_nat _ _ 1
  have e2 : HT.sIx xs.length xs.length none = xs.length := rfl
  rw [e1, e2]
  cases xs with
  | nil => rfl
  | cons x r =>
    have : min 1 (x :: r).length = 1 := by rw [List.length_cons]; omega
    rw [this]
    exact List.take_of_length_le (by rw [List.length_drop]; exact Nat.le_refl _)
theorem adj_asc : ∀ (ws : List Int), (∀ j, j + 1 < ws.length → ws.getD j 0 < ws.getD (j + 1) 0) → Asc ws
  | [], _ => List.Pairwise.nil
  | [x], _ => List.pairwise_singleton _ _
  | x :: y :: r, h => by
    have ih := adj_asc (y :: r) fun j hj => h (j + 1) (by simp at hj ⊢; omega)
    have h0 : x < y := h 0 (by simp)
    refine List.pairwise_cons.mpr ⟨fun z hz => ?_, ih⟩
    rcases List.mem_cons.mp hz with e | hz
    · rw [e]
      exact h0
    · exact Int.lt_trans h0 ((List.pairwise_cons.mp ih).1 z hz)
theorem asc_adj {ws : List Int} (a : Asc ws) (j : Nat) (h : j + 1 < ws.length) : ws.getD j 0 < ws.getD (j + 1) 0 := by
  have := List.pairwise_iff_getElem.mp a j (j + 1) (by omega) h (by omega)
  rw [getD_of (List.getElem?_eq_getElem (by omega)), getD_of (List.getElem?_eq_getElem h)]
  exact this
theorem all_within {m : Int} : ∀ (xs : List V), xs.all (fun y => within y 0 (m - 1)) = true → ∃ ws : List Int, xs = iV ws ∧ ∀ x ∈ ws, 0 ≤ x ∧ x ≤ m - 1
  | [], _ => ⟨[], rfl, fun x h => by cases h⟩
  | y :: r, h => by
    rw [List.all_cons, Bool.and_eq_true] at h
    obtain ⟨i, rfl, i1, i2⟩ := within_of h.1
    obtain ⟨ws, rfl, hw⟩ := all_within r h.2
    refine ⟨i :: ws, rfl, fun x hx => ?_⟩
    rcases List.mem_cons.mp hx with e | hx
    · rw [e]
      exact ⟨i1, i2⟩
    · exact hw x hx
theorem lot_all {m : Int} {xs : List V} (h : lotL m (-1) xs = true) : xs.all (fun y => within y 0 (m - 1)) = true := by
  obtain ⟨ws, rfl, a, r⟩ := lotL_lot xs (-1) h
  refine List.all_eq_true.mpr fun y hy => ?_
  obtain ⟨i, hi, rfl⟩ := List.mem_map.mp hy
  have := r i hi
  exact within_int (by omega) (by omega)
def spLLot (C : Addr) : Sp := fun vs H Q _ => ∃ (x : V) (m : Int), vs = [x, .int m] ∧ Kz C 1 H x ∧ ∀ H', Same H H' → Q (.bl (lotB m H x)) H'
def adjB (ws : List Int) (i : Nat) : List Bool := (List.range i).map fun j => decide (ws.getD j 0 < ws.getD (j + 1) 0)
theorem adjB_len (ws : List Int) (i : Nat) : (adjB ws i).length = i := by
  unfold adjB
  rw [List.length_map, List.length_range]
theorem adjB_succ (ws : List Int) (i : Nat) : adjB ws (i + 1) = adjB ws i ++ [decide (ws.getD i 0 < ws.getD (i + 1) 0)] := by
  unfold adjB
  rw [List.range_succ, List.map_append]
  rfl
theorem adjB_lot {m : Int} {ws : List Int} (r : ∀ x ∈ ws, 0 ≤ x ∧ x ≤ m - 1) : (adjB ws (ws.length - 1)).all id = lotL m (-1) (iV ws) := by
  have h1 : (adjB ws (ws.length - 1)).all id = true ↔ lotL m (-1) (iV ws) = true := by
    constructor
    · intro h
      have a : Asc ws := adj_asc ws fun j hj => by
        have := List.all_eq_true.mp h (decide (ws.getD j 0 < ws.getD (j + 1) 0)) (List.mem_map.mpr ⟨j, List.mem_range.mpr (by omega), rfl⟩)
        exact of_decide_eq_true this
      exact lotL_asc ws (-1) a (fun x hx => by have := r x hx; omega) fun x hx => by have := r x hx; omega
    · intro h
      obtain ⟨us, e, a, _⟩ := lotL_lot (iV ws) (-1) h
      have e2 : ws = us := by
        have inj : ∀ {a b : List Int}, iV a = iV b → a = b := fun {a} => by
          induction a with
          | nil => intro b h; cases b with
            | nil => rfl
            | cons => cases h
          | cons x r ih => intro b h; cases b with
            | nil => cases h
            | cons y t =>
              injection h with h1 h2
              injection h1 with h1
              rw [h1, ih h2]
        exact inj e
      refine List.all_eq_true.mpr fun b hb => ?_
      obtain ⟨j, hj, rfl⟩ := List.mem_map.mp hb
      have := List.mem_range.mp hj
      rw [← e2] at a
      exact decide_eq_true (asc_adj a j (by omega))
  cases h2 : lotL m (-1) (iV ws) with
  | true => exact h1.mpr h2
  | false =>
    refine Bool.eq_false_iff.mpr fun z => ?_
    rw [h1.mp z] at h2
    cases h2
theorem c_l_is_lot {f : Addr} (T : Txt K w mg C D) (df : Df K mg "_law_is_lot" s_l_is_lot f) (c_l_is_whole : Cal P w K mg base 1 "_law_is_whole" (spWithin C))  : CalF P w K mg base 2 f "_law_is_lot" (spLLot C) := by
  refine calF_of df sc_l_is_lot (fun vs H Q E h => ?_) (fun _ _ _ _ _ _ us hl => match us, hl with | [_, _], _ => rfl) (fun cdv A outer s H vs Q E hr h => ?_)
  · obtain ⟨x, m, rfl, _⟩ := h
    rfl
  · obtain ⟨x, m, rfl, kx, q⟩ := h
    refine ⟨_, (pss_cons (ps_if (PW.pt (pw_or (pt_not (pt_val (pe_callB (isi_tup T.ins T.kT) (by rfl) T.b_isinstance bt_isinstance (pa_cons (pv 0) (pa_cons (pe_bltn (v := .ty "tuple") (by rfl) T.b_tuple bt_tuple rfl) pa_nil))))) (pw_or1 (pt_not (pt_val (pe_callB (cr_all rfl) (by rfl) T.b_all bt_all (pa_cons (pe_lc rfl sc_l_is_lot.nd (pi_tup (pv 0)) (blkOk_by (own := [("_law_item", 4)]) (N := N_l_is_lot) (sc := defScope s_l_is_lot) (by decide +kernel)) (fun _ _ _ _ _ => (pg_name (i := 4) sc_l_is_lot.nd rfl (Or.inl rfl))) (fun _ _ _ _ _ => pts_nil) (fun _ _ _ _ _ => (pe_u c_l_is_whole hr (by decide) (by rfl) (pa_cons (pv 4) (pa_cons pe_int (pa_cons (pe_op op_sub (pv 1) pe_int) pa_nil)))))) pa_nil))))))) (pss_one (ps_ret pe_bl)) pss_nil) (pss_one (ps_ret (pe_callB (cr_all rfl) (by rfl) T.b_all bt_all (pa_cons (pe_lc rfl sc_l_is_lot.nd (RZ.pi_zipA (by rfl) T.b_zip (pa_cons (pe_slice sl_tupJ (pv 0) po_none (po_some (pe_un un_neg pe_int))) (pa_cons (pe_slice sl_tupJ (pv 0) (po_some pe_int) po_none) pa_nil))) (blkOk_by (own := [("_law_one", 2), ("_law_other", 3)]) (N := N_l_is_lot) (sc := defScope s_l_is_lot) (by decide +kernel)) (fun _ _ _ _ _ => (pg_tupK (n := 2) K rfl (by rfl) (pgs_cons (pg_name (i := 2) sc_l_is_lot.nd rfl (Or.inl rfl)) (pgs_cons (pg_name (i := 3) sc_l_is_lot.nd rfl (Or.inl rfl)) pgs_nil)))) (fun _ _ _ _ _ => pts_nil) (fun _ _ _ _ _ => (pe_cmpR op_lt (pv 2) (pv 3) (nomark _)))) pa_nil))))), ?_⟩
    refine ⟨_, rfl, x, rfl, kx.kb, _, rfl, ?_⟩
    refine ite2 (fun hb => ?_) (fun hb => ?_)
    · have e : lotB m H x = false := by
        have h2 : bT H x = false := notT hb
        rw [bT_tup] at h2
        unfold lotB
        cases z : tupOf H x with
        | none => rfl
        | some xs =>
          rw [z] at h2
          cases h2
      have g := q H (Same.refl _)
      rw [e] at g
      exact g
    · have hb2 : bT H x = true := notF hb
      obtain ⟨xs, hxs⟩ : ∃ xs, tupOf H x = some xs := by
        rw [bT_tup] at hb2
        exact Option.isSome_iff_exists.mp hb2
      obtain ⟨a, rfl, ha⟩ := tupOf_some hxs
      obtain ⟨hl, items⟩ := kx.2 a xs rfl ha
      have e : lotB m H (.ref a) = lotL m (-1) xs := by
        unfold lotB
        rw [hxs]
      rw [e] at q
      refine ⟨_, rfl, a, rfl, ⟨xs, SqT.of ha⟩, fun Dl hDl => lc_tup (K := K) (a := a) (xs := xs) (fun i H' => i ≤ xs.length ∧ Same H H' ∧ H' Dl = some (.lst ((xs.take i).map fun y => V.bl (within y 0 (m - 1)))))
        ⟨Nat.zero_le _, same_new hDl, by rw [upd_same]; rfl⟩ (fun i H' _ z => SqT.of (z.2.1 _ _ ha)) ?_ ?_⟩
      · rintro i y H1 hi ⟨hle, s1, h1⟩
        refine ⟨rfl, yes_ite ?_⟩
        refine ⟨_, rfl, _, rfl, m, 1, rfl, rfl, y, 0, m - 1, rfl, (items y (List.mem_of_getElem? hi)).kb.same s1, _, h1, sz_lt ?_, (List.getElem?_eq_some_iff.mp hi).1, same_upd s1 hDl, ?_⟩
        · rw [List.length_map, List.length_take]
          omega
        · rw [upd_same, List.take_add_one, hi, List.map_append]
          rfl
      · rintro H1 ⟨_, s1, h1⟩
        rw [List.take_length] at h1
        have ha1 := s1 _ _ ha
        refine ⟨Dl, xs.map fun y => within y 0 (m - 1), rfl, ?_, _, rfl, ?_⟩
        · rw [List.map_map]
          exact SqL.of h1
        have eall : (xs.map fun y => within y 0 (m - 1)).all id = xs.all (fun y => within y 0 (m - 1)) := by
          rw [List.all_map]
          rfl
        refine ite2 (fun hb => ?_) (fun hb => ?_)
        · have h2 := notT hb
          rw [eall] at h2
          have e3 : lotL m (-1) xs = false := Bool.eq_false_iff.mpr fun z => by
            rw [lot_all z] at h2
            cases h2
          have g := q _ s1
          rw [e3] at g
          exact g
        · have h2 := notF hb
          rw [eall] at h2
          obtain ⟨ws, rfl, hw⟩ := all_within xs h2
          rw [iV_len] at hl
          refine ⟨_, rfl, 1, rfl, _, rfl, a, iV ws, rfl, ha1, fun p1 H2 s2 hp1 => ⟨_, rfl, 1, rfl, a, iV ws, rfl, s2 _ _ ha1, fun p2 H3 s3 hp2 => ?_⟩⟩
          have hp1' : H2 p1 = some (.tup (iV (ws.take (ws.length - 1)))) := by
            rw [← cut_init]
            exact hp1
          have hp2' : H3 p2 = some (.tup (iV (ws.drop 1))) := by
            rw [← iV_drop, ← cut_tail]
            exact hp2
          have hn : ws.length - 1 = min (iV (ws.take (ws.length - 1))).length (iV (ws.drop 1)).length := by
            rw [iV_len, iV_len, List.length_take, List.length_drop]
            omega
          refine ⟨p1, p2, iV (ws.take (ws.length - 1)), iV (ws.drop 1), rfl, .inr ⟨SqT.of (s3 _ _ hp1'), SqT.of hp2', fun D2 hD2 => lc_it (walk_zipT hn) (fun i H' => Same H3 H' ∧ H' D2 = some (.lst ((adjB ws i).map V.bl)))
            ⟨same_new hD2, upd_same⟩ (fun i H' _ z => ⟨SqT.of (z.1 _ _ (s3 _ _ hp1')), SqT.of (z.1 _ _ hp2')⟩) ?_ ?_⟩⟩
          · rintro i x H4 H5 hi ⟨s4, h4⟩ ⟨T1, u, v, rfl, hT, rfl, e1, e2⟩
            obtain ⟨u', hu, rfl⟩ := iV_get e1
            obtain ⟨v', hv, rfl⟩ := iV_get e2
            have hu2 : ws.getD i 0 = u' := by
              rw [List.getElem?_take] at hu
              rw [if_pos hi] at hu
              exact getD_of hu
            have hv2 : ws.getD (i + 1) 0 = v' := by
              rw [List.getElem?_drop] at hv
              rw [Nat.add_comm] at hv
              exact getD_of hv
            refine ⟨T1, _, rfl, SqT.of upd_same, rfl, _, _, rfl, _, _, rfl, rfl, rfl, yes_ite ?_⟩
            have s5 := same_new (o := .tup [.int u', .int v']) hT
            refine ⟨_, rfl, _, rfl, _, _, rfl, rfl, _, s5 _ _ h4, sz_lt ?_, same_upd (s4.trans s5) hD2, ?_⟩
            · rw [List.length_map, adjB_len]
              omega
            · rw [upd_same, adjB_succ, List.map_append, hu2, hv2]
              rfl
          · rintro H4 ⟨s4, h4⟩
            refine ⟨D2, adjB ws (ws.length - 1), rfl, SqL.of h4, ?_⟩
            have g := q _ (s1.trans (s2.trans (s3.trans s4)))
            rw [← adjB_lot hw] at g
            exact g

end
end Rc
set_option maxHeartbeats 4000000
namespace Rc
open PySem PySem.Spec PyProof.Rows L2
section
variable {P : Program} {w : World} {K : PySem.W.Frag} {mg : Str → Option Value} {base : Heap} {C D : Addr}
/-! the law's _law_is_due -/
def spIsDue (C : Addr) : Sp := fun vs H Q _ => ∃ (a : Addr) (ys : List V) (ds : List Deed) (x : V), vs = [.ref a, x] ∧ H a = some (.tup ys) ∧ DsAt H ys ds ∧ ds.length ≤ 7 ∧ Good ds ∧ Kz C 2 H x ∧ ∀ H', Same H H' → Q (.bl (dueB ds H x)) H'
theorem e30 : (10 : Int) ^ (30 : Int).toNat = E30 := rfl
theorem str_eq {z y : Str} : decide (V.str z = V.str y) = decide (z = y) := by
  by_cases h : z = y
  · subst h
    rw [decide_eq_true rfl, decide_eq_true rfl]
  · rw [decide_eq_false h, decide_eq_false fun e => h (by injection e)]
theorem int_eq {i j : Int} : decide (V.int i = V.int j) = decide (i = j) := by
  by_cases h : i = j
  · subst h
    rw [decide_eq_true rfl, decide_eq_true rfl]
  · rw [decide_eq_false h, decide_eq_false fun e => h (by injection e)]
theorem len4 {r : List V} (h : (r.length + 1 : Nat) = 4) : ∃ a b c, r = [a, b, c] := by
  match r, h with
  | [a, b, c], _ => exact ⟨a, b, c, rfl⟩
theorem len3 {r : List V} (h : (r.length + 1 : Nat) = 3) : ∃ a b, r = [a, b] := by
  match r, h with
  | [a, b], _ => exact ⟨a, b, rfl⟩
theorem c_l_is_due {f : Addr} (T : Txt K w mg C D) (df : Df K mg "_law_is_due" s_l_is_due f) (c_l_is_whole : Cal P w K mg base 1 "_law_is_whole" (spWithin C)) (c_l_is_lot : Cal P w K mg base 2 "_law_is_lot" (spLLot C)) (c_l_closure : Cal P w K mg base 1 "_law_closure" (spClosure))  : CalF P w K mg base 3 f "_law_is_due" (spIsDue C) := by
  refine calF_of df sc_l_is_due (fun vs H Q E h => ?_) (fun _ _ _ _ _ _ us hl => match us, hl with | [_, _], _ => rfl) (fun cdv A outer s H vs Q E hr h => ?_)
  · obtain ⟨a, ys, ds, x, rfl, _⟩ := h
    rfl
  · obtain ⟨da, ys, ds, x, rfl, hda, hd, hn7, hg, kx, q⟩ := h
    refine ⟨_, (pss_cons (ps_set (i := 2) sc_l_is_due.nd rfl (Or.inr rfl) (pe_callB call_len_seq (by rfl) T.b_len bt_len (pa_cons (pv 0) pa_nil))) (pss_cons (ps_if (PW.pt (pw_or (pt_not (pt_val (pe_callB (isi_tup T.ins T.kT) (by rfl) T.b_isinstance bt_isinstance (pa_cons (pv 1) (pa_cons (pe_bltn (v := .ty "tuple") (by rfl) T.b_tuple bt_tuple rfl) pa_nil))))) (pw_or (pt_cmpR op_lt (pe_callB call_len_seq (by rfl) T.b_len bt_len (pa_cons (pv 1) pa_nil)) pe_int (nomark _)) (pw_or1 (pt_not (pt_val (pe_callB (isi_str T.ins T.kS) (by rfl) T.b_isinstance bt_isinstance (pa_cons (pe_ix ix_tup (pv 1) pe_int (fun _ _ => rfl)) (pa_cons (pe_bltn (v := .ty "str") (by rfl) T.b_str bt_str rfl) pa_nil))))))))) (pss_one (ps_ret pe_bl)) pss_nil) (Evl.pss_cut (ps_if (PW.pt (pw_and (pt_cmpR op_eq (pe_ix ix_tup (pv 1) pe_int (fun _ _ => rfl)) pe_str (nomark _)) (pw_and1 (pt_cmpR op_eq (pe_callB call_len_seq (by rfl) T.b_len bt_len (pa_cons (pv 1) pa_nil)) pe_int (nomark _))))) (pss_cons (ps_set (i := 3) sc_l_is_due.nd rfl (Or.inl rfl) (pe_and (pe_u c_l_is_whole hr (by decide) (by rfl) (pa_cons (pe_ix ix_tup (pv 1) pe_int (fun _ _ => rfl)) (pa_cons pe_int (pa_cons (pe_op op_sub (pv 2) pe_int) pa_nil)))) (pe_one (pe_u c_l_is_whole hr (by decide) (by rfl) (pa_cons (pe_ix ix_tup (pv 1) pe_int (fun _ _ => rfl)) (pa_cons pe_int (pa_cons (pe_op op_pow pe_int pe_int) pa_nil))))))) (pss_one (ps_ret (pe_and (pv 3) (pe_one (pe_u c_l_is_whole hr (by decide) (by rfl) (pa_cons (pe_ix ix_tup (pv 1) pe_int (fun _ _ => rfl)) (pa_cons pe_int (pa_cons (pe_op op_pow pe_int pe_int) pa_nil))))))))) pss_nil) (Evl.pss_cut (ps_if (PW.pt (pw_and (pt_cmpR op_eq (pe_ix ix_tup (pv 1) pe_int (fun _ _ => rfl)) pe_str (nomark _)) (pw_and1 (pt_cmpR op_eq (pe_callB call_len_seq (by rfl) T.b_len bt_len (pa_cons (pv 1) pa_nil)) pe_int (nomark _))))) (pss_cons (ps_set (i := 3) sc_l_is_due.nd rfl (Or.inl rfl) (pe_and (pe_cmpR op_lt (pv 2) pe_int (nomark _)) (pe_and (pe_u c_l_is_whole hr (by decide) (by rfl) (pa_cons (pe_ix ix_tup (pv 1) pe_int (fun _ _ => rfl)) (pa_cons pe_int (pa_cons (pe_op op_pow pe_int pe_int) pa_nil)))) (pe_one (pe_u c_l_is_whole hr (by decide) (by rfl) (pa_cons (pe_ix ix_tup (pv 1) pe_int (fun _ _ => rfl)) (pa_cons pe_int (pa_cons (pe_op op_pow pe_int pe_int) pa_nil)))))))) (pss_one (ps_ret (pe_and (pv 3) (pe_one (pe_u c_l_is_lot hr (by decide) (by rfl) (pa_cons (pe_ix ix_tup (pv 1) pe_int (fun _ _ => rfl)) (pa_cons (pv 2) pa_nil)))))))) pss_nil) (pss_cons (ps_if (PW.pt (pw_or (pt_cmpR op_ne (pe_ix ix_tup (pv 1) pe_int (fun _ _ => rfl)) pe_str (nomark _)) (pw_or (pt_cmpR op_ne (pe_callB call_len_seq (by rfl) T.b_len bt_len (pa_cons (pv 1) pa_nil)) pe_int (nomark _)) (pw_or1 (pt_not (pt_val (pe_callB (cr_all rfl) (by rfl) T.b_all bt_all (pa_cons (pe_lc rfl sc_l_is_due.nd (pi_tup (pe_slice sl_tupJ (pv 1) (po_some pe_int) po_none)) (blkOk_by (own := [("_law_deed", 4)]) (N := N_l_is_due) (sc := defScope s_l_is_due) (by decide +kernel)) (fun _ _ _ _ _ => (pg_name (i := 4) sc_l_is_due.nd rfl (Or.inl rfl))) (fun _ _ _ _ _ => pts_nil) (fun _ _ _ _ _ => (pe_u c_l_is_whole hr (by decide) (by rfl) (pa_cons (pv 4) (pa_cons pe_int (pa_cons (pe_op op_sub (pv 2) pe_int) pa_nil)))))) pa_nil)))))))) (pss_one (ps_ret pe_bl)) pss_nil) (pss_cons (ps_asg (pe_slice sl_tupJ (pv 1) (po_some pe_int) po_none) (pg_tup (by rfl) (pgs_cons (pg_name (i := 4) sc_l_is_due.nd rfl (Or.inl rfl)) (pgs_cons (pg_name (i := 5) sc_l_is_due.nd rfl (Or.inl rfl)) pgs_nil)))) (pss_one (ps_ret (pe_and (pe_cmpR op_ne (pv 4) (pv 5) (nomark _)) (pe_and (pe_cmpR op_notIn_seq (pv 5) (pe_ix ix_tup (pe_ix ix_tup (pv 0) (pv 4) (fun _ _ => rfl)) pe_int (fun _ _ => rfl)) (by rfl)) (pe_one (pe_cmpR op_notIn_seq (pv 4) (pe_u c_l_closure hr (by decide) (by rfl) (pa_cons (pv 0) (pa_cons (pe_lst (pa_cons (pv 5) pa_nil)) pa_nil))) (by rfl))))))))))))), ?_⟩
    have hln := hd.len
    refine ⟨_, rfl, da, ys, rfl, .inr (SqT.of hda), ?_⟩
    refine ⟨_, rfl, x, rfl, kx.kb, _, rfl, ite2 (fun h1 => ?_) (fun h1 => ?_)⟩
    · have e : dueB ds H x = false := by
        have h2 : bT H x = false := notT h1
        rw [bT_tup] at h2
        unfold dueB
        cases z : tupOf H x with
        | none => rfl
        | some xs =>
          rw [z] at h2
          cases h2
      have g := q H (Same.refl _)
      rw [e] at g
      exact g
    have h2 : bT H x = true := notF h1
    rw [bT_tup] at h2
    obtain ⟨xs, hx⟩ := Option.isSome_iff_exists.mp h2
    obtain ⟨t, rfl, ht⟩ := tupOf_some hx
    have hdue : dueB ds H (.ref t) = dueT ds H xs := dueB_at ht
    refine ⟨_, rfl, t, xs, rfl, .inr (SqT.of ht), _, 3, rfl, rfl, _, rfl, ite2 (fun h1 => ?_) (fun h1 => ?_)⟩
    · have h3 : ((xs.length : Nat) : Int) < 3 := of_decide_eq_true h1
      have g := q H (Same.refl _)
      rw [hdue, due_len (by omega)] at g
      exact g
    have h3 : ¬ ((xs.length : Nat) : Int) < 3 := fun z => h1 (decide_eq_true z)
    obtain ⟨x0, r, rfl⟩ : ∃ x0 r, xs = x0 :: r := by
      cases xs with
      | nil => exact absurd (by decide : ((([] : List V).length : Nat) : Int) < 3) h3
      | cons a b => exact ⟨a, b, rfl⟩
    obtain ⟨hxl, items⟩ := kx.2 t _ rfl ht
    have k0 : Kz C 1 H x0 := items x0 (List.mem_cons_self ..)
    have at0 : atI (x0 :: r) 0 = some x0 := atI_nat (j := 0) rfl
    refine ⟨_, rfl, t, _, 0, x0, rfl, rfl, SqT.of ht, at0, x0, rfl, k0.kb, _, rfl, ite2 (fun h1 => ?_) (fun h1 => ?_)⟩
    · have g := q H (Same.refl _)
      rw [hdue, due_str (notT h1)] at g
      exact g
    obtain ⟨z, rfl⟩ := bS_str (notF h1)
    have hdue2 : dueB ds H (.ref t) = dueW ds H z r := hdue
    rw [hdue2] at q
    have kr : ∀ y ∈ r, Kz C 1 H y := fun y hy => items y (List.mem_cons_of_mem _ hy)
    have kn : ((ds.length : Int) - 1) = ((ys.length : Nat) : Int) - 1 := by omega
    -- row
    refine ⟨fun σ' H' => H' = H ∧ σ' = [some (.ref da), some (.ref t), some (.int ((ys.length : Nat) : Int)), none, none, none] ∧ ¬ (z = ("row" : Str) ∧ r.length + 1 = 4), ?_, ?_⟩
    · refine ⟨_, rfl, t, _, 0, .str z, rfl, rfl, SqT.of ht, at0, rfl, _, rfl, ite2 (fun h1 => ⟨_, rfl, t, _, rfl, .inr (SqT.of ht), rfl, _, rfl, ite2 (fun h4 => ?_) (fun h4 => ?_)⟩) (fun h1 => ?_)⟩
      · have z1 : z = ("row" : Str) := of_decide_eq_true (str_eq ▸ h1)
        have z2 : r.length + 1 = 4 := by
          have := of_decide_eq_true (int_eq ▸ h4)
          have e : (V.str z :: r).length = r.length + 1 := rfl
          omega
        obtain ⟨a, b, c, rfl⟩ := len4 z2
        subst z1
        have e : dueW ds H ("row" : Str) [a, b, c] = rowB ds.length a b c := by
          show (if ("row" : Str) = ("row" : Str) then rowB ds.length a b c else if ("row" : Str) = ("open" : Str) then openB ds.length H a b c else false) = _
          rw [if_pos rfl]
        have g := q H (Same.refl _)
        rw [e] at g
        unfold rowB at g
        rw [kn] at g
        have ka := (kr a (by simp)).kb
        have kb := (kr b (by simp)).kb
        have kc := (kr c (by simp)).kb
        refine ⟨_, rfl, t, _, 1, a, rfl, rfl, SqT.of ht, rfl, _, rfl, _, 1, rfl, rfl, a, 0, _, rfl, ka, _, rfl, ite2 (fun w1 => ?_) (fun w1 => ?_)⟩
        · rw [w1, Bool.true_and] at g
          refine ⟨_, rfl, t, _, 2, b, rfl, rfl, SqT.of ht, rfl, 10, 30, rfl, rfl, ⟨by decide, by decide, by decide⟩, b, 1, _, rfl, kb, ?_⟩
          refine ⟨_, rfl, _, rfl, ite2 (fun w2 => ?_) (fun w2 => ?_)⟩
          · have w3 : within b 1 E30 = true := w2
            rw [w3, Bool.true_and] at g
            exact ⟨_, rfl, t, _, 3, c, rfl, rfl, SqT.of ht, rfl, 10, 30, rfl, rfl, ⟨by decide, by decide, by decide⟩, c, 0, _, rfl, kc, g⟩
          · have w3 : within b 1 E30 = false := Bool.eq_false_iff.mpr w2
            rw [w3, Bool.false_and] at g
            exact g
        · rw [Bool.eq_false_iff.mpr w1, Bool.false_and] at g
          exact ⟨_, rfl, false, rfl, iteF g⟩
      · refine ⟨rfl, rfl, fun zz => h4 ?_⟩
        have e : (V.str z :: r).length = r.length + 1 := rfl
        refine int_eq ▸ decide_eq_true ?_
        rw [e, zz.2]
        rfl
      · exact ⟨rfl, rfl, fun zz => h1 (str_eq ▸ decide_eq_true zz.1)⟩
    rintro σ H1 ⟨rfl, rfl, hno1⟩
    -- open
    refine ⟨fun σ' H' => H' = H1 ∧ σ' = [some (.ref da), some (.ref t), some (.int ((ys.length : Nat) : Int)), none, none, none] ∧ ¬ (z = ("open" : Str) ∧ r.length + 1 = 4), ?_, ?_⟩
    · refine ⟨_, rfl, t, _, 0, .str z, rfl, rfl, SqT.of ht, at0, rfl, _, rfl, ite2 (fun h1 => ⟨_, rfl, t, _, rfl, .inr (SqT.of ht), rfl, _, rfl, ite2 (fun h4 => ?_) (fun h4 => ?_)⟩) (fun h1 => ?_)⟩
      · have z1 : z = ("open" : Str) := of_decide_eq_true (str_eq ▸ h1)
        have z2 : r.length + 1 = 4 := by
          have := of_decide_eq_true (int_eq ▸ h4)
          have e : (V.str z :: r).length = r.length + 1 := rfl
          omega
        obtain ⟨a, b, c, rfl⟩ := len4 z2
        subst z1
        have e : dueW ds H1 ("open" : Str) [a, b, c] = openB ds.length H1 a b c := by
          show (if ("open" : Str) = ("row" : Str) then rowB ds.length a b c else if ("open" : Str) = ("open" : Str) then openB ds.length H1 a b c else false) = _
          rw [if_neg ro.symm, if_pos rfl]
        rw [e] at q
        unfold openB at q
        rw [decide_eq_true (by omega : ds.length < 200), Bool.true_and] at q
        have ka := (kr a (by simp)).kb
        have kb := (kr b (by simp)).kb
        have kc := kr c (by simp)
        refine ⟨_, rfl, _, 200, rfl, rfl, true, congrArg V.bl (decide_eq_true ?_), iteT ?_⟩
        · omega
        refine ⟨_, rfl, t, _, 1, a, rfl, rfl, SqT.of ht, rfl, 10, 30, rfl, rfl, ⟨by decide, by decide, by decide⟩, a, 0, _, rfl, ka, _, rfl, ite2 (fun w1 => ?_) (fun w1 => ?_)⟩
        · have w3 : within a 0 E30 = true := w1
          rw [w3, Bool.true_and] at q
          refine ⟨_, rfl, t, _, 2, b, rfl, rfl, SqT.of ht, rfl, 10, 30, rfl, rfl, ⟨by decide, by decide, by decide⟩, b, 0, _, rfl, kb, ?_⟩
          refine ⟨_, rfl, _, rfl, ite2 (fun w2 => ?_) (fun w2 => ?_)⟩
          · have w3 : within b 0 E30 = true := w2
            rw [w3, Bool.true_and] at q
            rw [show ((ds.length : Nat) : Int) = ((ys.length : Nat) : Int) by omega] at q
            exact ⟨_, rfl, t, _, 3, c, rfl, rfl, SqT.of ht, rfl, _, rfl, c, _, rfl, kc, q⟩
          · have w3 : within b 0 E30 = false := Bool.eq_false_iff.mpr w2
            rw [w3, Bool.false_and] at q
            exact q _ (Same.refl _)
        · have w3 : within a 0 E30 = false := Bool.eq_false_iff.mpr w1
          rw [w3, Bool.false_and] at q
          exact ⟨_, rfl, false, rfl, iteF (q _ (Same.refl _))⟩
      · refine ⟨rfl, rfl, fun zz => h4 ?_⟩
        have e : (V.str z :: r).length = r.length + 1 := rfl
        refine int_eq ▸ decide_eq_true ?_
        rw [e, zz.2]
        rfl
      · exact ⟨rfl, rfl, fun zz => h1 (str_eq ▸ decide_eq_true zz.1)⟩
    rintro σ H ⟨rfl, rfl, hno2⟩
    -- wait
    have none_ : ¬ (z = ("wait" : Str) ∧ r.length + 1 = 3) → dueW ds H z r = false := fun hno3 => by
      refine due_size fun e => ?_
      have h3' : 3 ≤ r.length + 1 := by
        have e : (V.str z :: r).length = r.length + 1 := rfl
        rw [e] at h3
        omega
      rcases size_case h3' e with zz | zz | zz
      · exact hno1 zz
      · exact hno2 zz
      · exact hno3 zz
    refine ⟨_, rfl, t, _, 0, .str z, rfl, rfl, SqT.of ht, at0, rfl, _, rfl, ite2 (fun h1 => ?_) (fun h1 => ?_)⟩
    · have z1 : ¬ z = ("wait" : Str) := fun e => by
        have := notT h1
        rw [str_eq, decide_eq_true e] at this
        cases this
      have g := q H (Same.refl _)
      rw [none_ fun zz => z1 zz.1] at g
      exact g
    have z1 : z = ("wait" : Str) := of_decide_eq_true (str_eq ▸ notF h1)
    refine ⟨_, rfl, t, _, rfl, .inr (SqT.of ht), rfl, _, rfl, ite2 (fun h1 => ?_) (fun h1 => ?_)⟩
    · have z2 : ¬ r.length + 1 = 3 := fun e2 => by
        have := notT h1
        have e : (V.str z :: r).length = r.length + 1 := rfl
        rw [int_eq, e, e2, decide_eq_true (by rfl)] at this
        cases this
      have g := q H (Same.refl _)
      rw [none_ fun zz => z2 zz.2] at g
      exact g
    have z2 : r.length + 1 = 3 := by
      have := of_decide_eq_true (int_eq ▸ notF h1)
      have e : (V.str z :: r).length = r.length + 1 := rfl
      omega
    obtain ⟨a, b, rfl⟩ := len3 z2
    subst z1
    have e : dueW ds H ("wait" : Str) [a, b] = waitB ds a b := by
      show (if ("wait" : Str) = ("wait" : Str) then waitB ds a b else false) = _
      rw [if_pos rfl]
    rw [e] at q
    have ka := (kr a (by simp)).kb
    have kb := (kr b (by simp)).kb
    refine ⟨_, rfl, 1, rfl, t, _, rfl, ht, fun p H1 s1 hp => ?_⟩
    rw [cut_tail] at hp
    have hp : H1 p = some (.tup [a, b]) := hp
    refine ⟨p, rfl, ⟨_, SqT.of hp⟩, fun Dl hDl => lc_tup (K := K) (a := p) (xs := [a, b]) (fun i H' => Same H1 H' ∧ H' Dl = some (.lst (([a, b].take i).map fun y => V.bl (within y 0 (((ys.length : Nat) : Int) - 1)))) ∧ i ≤ 2)
      ⟨same_new hDl, by rw [upd_same]; rfl, by decide⟩ (fun i H' _ z => SqT.of (z.1 _ _ hp)) ?_ ?_⟩
    · rintro i y H2 hi ⟨s2, h2, hi2⟩
      have ky : Kb C H y := by
        have := List.mem_of_getElem? hi
        exact (kr y this).kb
      refine ⟨rfl, yes_ite ?_⟩
      refine ⟨_, rfl, _, rfl, _, 1, rfl, rfl, y, 0, _, rfl, ky.same (s1.trans s2), _, h2, sz_lt ?_, same_upd s2 hDl, ?_, ?_⟩
      · rw [List.length_map, List.length_take]
        omega
      · rw [upd_same, List.take_add_one, hi, List.map_append]
        rfl
      · have := (List.getElem?_eq_some_iff.mp hi).1
        exact this
    · rintro H2 ⟨s2, h2, _⟩
      have s12 := s1.trans s2
      refine ⟨Dl, [within a 0 (((ys.length : Nat) : Int) - 1), within b 0 (((ys.length : Nat) : Int) - 1)], rfl, SqL.of h2, _, rfl, ?_⟩
      have eall : ([within a 0 (((ys.length : Nat) : Int) - 1), within b 0 (((ys.length : Nat) : Int) - 1)] : List Bool).all id = (within a 0 ((ds.length : Int) - 1) && within b 0 ((ds.length : Int) - 1)) := by
        rw [kn]
        show (within a 0 _ && (within b 0 _ && true)) = _
        rw [Bool.and_true]
      refine ite2 (fun hb => ?_) (fun hb => ?_)
      · have hb2 := notT hb
        rw [eall] at hb2
        have e : waitB ds a b = false := waitB_false fun zz => by
          obtain ⟨w1, w2⟩ := waitOk_w zz
          rw [w1, w2] at hb2
          cases hb2
        have g := q _ s12
        rw [e] at g
        exact g
      have hb2 := notF hb
      rw [eall, Bool.and_eq_true] at hb2
      obtain ⟨i, rfl, i1, i2⟩ := within_of hb2.1
      obtain ⟨j, rfl, j1, j2⟩ := within_of hb2.2
      obtain ⟨d, rfl⟩ : ∃ d : Nat, i = (d : Int) := ⟨i.toNat, by omega⟩
      obtain ⟨o, rfl⟩ : ∃ o : Nat, j = (o : Int) := ⟨j.toNat, by omega⟩
      have ho : o < ds.length := by omega
      refine ⟨_, rfl, 1, rfl, t, _, rfl, s12 _ _ ht, fun p3 H3 s3 hp3 => ?_⟩
      rw [cut_tail] at hp3
      have hp3 : H3 p3 = some (.tup [.int (d : Int), .int (o : Int)]) := hp3
      have s13 := s12.trans s3
      refine ⟨p3, _, rfl, SqT.of hp3, rfl, _, _, rfl, _, _, rfl, rfl, ?_⟩
      have hd3 := hd.same s13
      obtain ⟨v, y, e1, e2, p4, q4, rfl, hp4, hq4⟩ := hd3.get (i := d) (by omega)
      refine ⟨_, rfl, _, rfl, rfl, _, rfl, ite2 (fun hb3 => ?_) (fun hb3 => ?_)⟩
      · have hne : d ≠ o := fun zz => by
          have := notT hb3
          rw [int_eq, zz, decide_eq_true rfl] at this
          cases this
        refine ⟨_, rfl, _, rfl, _, rfl, da, ys, (d : Int), .ref p4, rfl, rfl, SqT.of (s13 _ _ hda), atI_nat e1, p4, _, 2, .ref q4, rfl, rfl, SqT.of hp4, rfl, q4, iV y.2.2, rfl, .inr (SqT.of hq4), rfl, all_flat _, ?_⟩
        rw [if_pos rfl, inV_int]
        by_cases hm : (o : Int) ∈ y.2.2
        · rw [decide_eq_true hm]
          refine ⟨_, rfl, iteF ?_⟩
          have e : waitB ds (.int (d : Int)) (.int (o : Int)) = false := waitB_false fun z => by
            obtain ⟨d', o', y', q1, q2, q3, _, _, ne, _⟩ := z
            injection q1 with q1
            injection q2 with q2
            have q1 : d = d' := by omega
            subst q1
            rw [e2] at q3
            cases q3
            exact ne (by rw [← q2]; exact hm)
          have g := q _ s13
          rw [e] at g
          exact g
        rw [decide_eq_false hm]
        refine ⟨_, rfl, iteT ?_⟩
        refine ⟨_, rfl, _, rfl, _, rfl, sz1, fun l4 hl4 => ?_⟩
        have s4 := same_new (o := .lst [.int (o : Int)]) hl4
        have s14 := s13.trans s4
        refine ⟨da, l4, ys, ds, [(o : Int)], rfl, s14 _ _ hda, hd.same s14, upd_same, by simp, (by decide : 1 ≤ 7), ?_, hn7, hg.inr, hg.asc, fun H5 p5 L s5 h5 _ hL => ?_⟩
        · intro x hx
          rw [List.mem_singleton.mp hx]
          omega
        refine ⟨p5, iV L, rfl, .inr (SqT.of h5), rfl, all_flat L, ?_⟩
        rw [if_pos rfl, inV_int]
        have g := q _ (s14.trans s5)
        by_cases hr2 : Reach (waitsL ds) [(o : Int)] (d : Int)
        · have e : waitB ds (.int (d : Int)) (.int (o : Int)) = false := waitB_false fun z => by
            obtain ⟨d', o', y, q1, q2, _, _, _, _, nr⟩ := z
            injection q1 with q1
            injection q2 with q2
            exact nr (by rw [← q1, ← q2]; exact hr2)
          rw [e] at g
          rw [decide_eq_true ((hL _).mpr hr2)]
          exact g
        · have e : waitB ds (.int (d : Int)) (.int (o : Int)) = true := waitB_true ⟨d, o, y, rfl, rfl, e2, ho, hne, hm, hr2⟩
          rw [e] at g
          rw [decide_eq_false fun z => hr2 ((hL _).mp z)]
          exact g
      · have heq : d = o := by
          have hb4 : (!decide (V.int (d : Int) = V.int (o : Int))) = false := Bool.eq_false_iff.mpr hb3
          rw [int_eq] at hb4
          have : decide ((d : Int) = (o : Int)) = true := by
            cases z : decide ((d : Int) = (o : Int)) with
            | true => rfl
            | false =>
              rw [z] at hb4
              cases hb4
          have := of_decide_eq_true this
          omega
        have e : waitB ds (.int (d : Int)) (.int (o : Int)) = false := waitB_false fun z => by
          obtain ⟨d', o', y, q1, q2, _, _, ne, _⟩ := z
          injection q1 with q1
          injection q2 with q2
          omega
        have g := q _ s13
        rw [e] at g
        exact g

end
end Rc
set_option maxHeartbeats 4000000
namespace Rc
open PySem PySem.Spec PyProof.Rows L2
section
variable {P : Program} {w : World} {K : PySem.W.Frag} {mg : Str → Option Value} {base : Heap} {C D : Addr}
/-! the law's _law_bent -/
/-- from heap to heap, the hand drawing or not -/
structure Adv (h c : Addr) (H H' : Hp) : Prop where
  a : HandC H h c
  b : HandC H' h c
  s : Same (No h H) (No h H')
theorem Adv.sm {h c : Addr} {H H' : Hp} (x : HandC H h c) (s : Same H H') : Adv h c H H' := ⟨x, x.same s, same_no s h⟩
theorem Adv.nw {h c p : Addr} {H : Hp} {o : HO} (x : HandC H h c) (e : H p = none) : Adv h c H (upd H p o) := Adv.sm x (same_new e)
theorem Adv.tr {h c : Addr} {H H' H'' : Hp} (x : Adv h c H H') (y : Adv h c H' H'') : Adv h c H H'' := ⟨x.a, y.b, x.s.trans y.s⟩
theorem Adv.kz {h c : Addr} {H H' : Hp} (x : Adv h c H H') {C : Addr} {n : Nat} {v : V} (k : Kz C n H v) : Kz C n H' v := Kz.draw x.a x.b x.s k
theorem Adv.tp {h c b : Addr} {H H' : Hp} {xs : List V} (x : Adv h c H H') (e : H b = some (.tup xs)) : H' b = some (.tup xs) := tup_keep x.a x.s e
theorem Adv.kp {h c b : Addr} {H H' : Hp} {o : HO} (x : Adv h c H H') (e : H b = some o) (ne : b ≠ h) : H' b = some o := no_keep x.s e ne
theorem Adv.kzs {h c : Addr} {H H' : Hp} (x : Adv h c H H') {C : Addr} {n : Nat} {xs : List V} (k : ∀ y ∈ xs, Kz C n H y) : ∀ y ∈ xs, Kz C n H' y := fun y hy => x.kz (k y hy)
theorem cut_sub {xs : List V} {lo hi : Option Int} : ∀ y ∈ cutV xs lo hi, y ∈ xs := fun y hy => by
  unfold cutV at hy
  exact List.mem_of_mem_drop (List.mem_of_mem_take hy)
theorem cut_le {xs : List V} {lo hi : Option Int} : (cutV xs lo hi).length ≤ xs.length := cutV_length xs lo hi
def spBent (C : Addr) : Sp := fun vs H Q _ => ∃ (h c t q st : Addr) (xs ys : List V), vs = [.ref h, .ref t, .ref q, .ref st] ∧ HandC H h c ∧ H t = some (.tup xs) ∧ 3 ≤ xs.length ∧ xs.length ≤ 4 ∧ Kz C 2 H (.ref t) ∧ H q = some (.tup ys) ∧ ys.length ≤ 7 ∧ Kz C 2 H (.ref st) ∧
  ∀ (H' : Hp) (y : V), Adv h c H H' → Kz C 2 H' y → Q y H'
theorem sz_small {n : Nat} (h : n ≤ 1000) : n ≤ sizeLine := Nat.le_of_lt (sz_lt (by omega))
theorem c_l_bent {f : Addr} (T : Txt K w mg C D) (df : Df K mg "_law_bent" s_l_bent f) (c_l_draw : Cal P w K mg base 1 "_law_draw" (spDraw)) (c_l_odd : Cal P w K mg base 2 "_law_odd" (spOdd C))  : CalF P w K mg base 3 f "_law_bent" (spBent C) := by
  refine calF_of df sc_l_bent (fun vs H Q E h => ?_) (fun _ _ _ _ _ _ us hl => match us, hl with | [_, _, _, _], _ => rfl) (fun cdv A outer s H vs Q E hr h => ?_)
  · obtain ⟨h, c, t, q, st, xs, ys, rfl, _⟩ := h
    rfl
  · obtain ⟨h, c, t, qd, st, xs, ys, rfl, hH, ht, hx3, hx4, kt, hqd, hy7, kst, q⟩ := h
    refine ⟨_, (pss_cons (ps_set (i := 4) sc_l_bent.nd rfl (Or.inl rfl) (pe_callB call_len_seq (by rfl) T.b_len bt_len (pa_cons (pv 2) pa_nil))) (pss_cons (ps_set (i := 5) sc_l_bent.nd rfl (Or.inl rfl) (pe_op op_add pe_int (pe_u c_l_draw hr (by decide) (by rfl) (pa_cons (pv 0) (pa_cons (pe_op op_sub (pe_callB call_len_seq (by rfl) T.b_len bt_len (pa_cons (pv 1) pa_nil)) pe_int) pa_nil))))) (pss_cons (ps_set (i := 6) sc_l_bent.nd rfl (Or.inl rfl) (pe_lst (pa_cons pe_int (pa_cons (pe_un un_neg pe_int) (pa_cons (pv 4) (pa_cons (pe_op op_add (pv 4) pe_int) (pa_cons pe_bl (pa_cons pe_non (pa_cons pe_str (pa_cons (pe_op op_pow pe_int pe_int) (pa_cons (pe_op op_add (pe_op op_pow pe_int pe_int) pe_int) (pa_cons (pe_tup pa_nil) (pa_cons (pe_tup (pa_cons pe_int pa_nil)) (pa_cons (pe_tup (pa_cons pe_int (pa_cons pe_int pa_nil))) (pa_cons (pe_tup (pa_cons (pv 4) pa_nil)) (pa_cons (pe_lst (pa_cons pe_int pa_nil)) (pa_cons (pe_u c_l_odd hr (by decide) (by rfl) (pa_cons (pv 0) (pa_cons (pv 3) pa_nil))) pa_nil))))))))))))))))) (pss_cons (ps_set (i := 7) sc_l_bent.nd rfl (Or.inl rfl) (pe_ix ix_list (pv 6) (pe_u c_l_draw hr (by decide) (by rfl) (pa_cons (pv 0) (pa_cons pe_int pa_nil))) (fun _ _ => rfl))) (pss_cons (ps_set (i := 8) sc_l_bent.nd rfl (Or.inl rfl) (pe_tup (pa_cons pe_str (pa_cons (pe_u c_l_draw hr (by decide) (by rfl) (pa_cons (pv 0) (pa_cons (pe_op op_add (pv 4) pe_int) pa_nil))) (pa_cons (pe_u c_l_draw hr (by decide) (by rfl) (pa_cons (pv 0) (pa_cons (pe_op op_add (pv 4) pe_int) pa_nil))) pa_nil))))) (pss_cons (ps_set (i := 9) sc_l_bent.nd rfl (Or.inl rfl) (pe_lst (pa_cons (pe_op op_catJ (pe_op op_catJ (pe_slice sl_tupJ (pv 1) po_none (po_some (pv 5))) (pe_tup (pa_cons (pv 7) pa_nil))) (pe_slice sl_tupJ (pv 1) (po_some (pe_op op_add (pv 5) pe_int)) po_none)) (pa_cons (pe_op op_catJ (pe_op op_catJ (pe_slice sl_tupJ (pv 1) po_none (po_some (pv 5))) (pe_tup (pa_cons (pv 7) pa_nil))) (pe_slice sl_tupJ (pv 1) (po_some (pe_op op_add (pv 5) pe_int)) po_none)) (pa_cons (pv 8) (pa_cons (pe_op op_catJ (pv 1) (pe_tup (pa_cons pe_int pa_nil))) (pa_cons (pe_slice sl_tupJ (pv 1) po_none (po_some (pe_un un_neg pe_int))) pa_nil))))))) (pss_cons (ps_set (i := 10) sc_l_bent.nd rfl (Or.inl rfl) (pe_lst (pa_cons (pe_ix ix_tup (pe_tup (pa_cons pe_str (pa_cons pe_str (pa_cons pe_str (pa_cons pe_str (pa_cons pe_str pa_nil)))))) (pe_u c_l_draw hr (by decide) (by rfl) (pa_cons (pv 0) (pa_cons pe_int pa_nil))) (fun _ _ => rfl)) (pa_cons (pe_u c_l_odd hr (by decide) (by rfl) (pa_cons (pv 0) (pa_cons (pv 3) pa_nil))) pa_nil)))) (pss_one (ps_ret (pe_ix ix_list (pe_op op_cat (pv 9) (pe_lst (pa_cons (pe_callTy call_list_of (by rfl) T.b_list bt_list (pa_cons (pv 1) pa_nil)) (pa_cons (pe_op op_catJ (pe_tup (pa_cons (pe_ix ix_list (pv 10) pe_int (fun _ _ => rfl)) pa_nil)) (pe_slice sl_tupJ (pv 1) (po_some pe_int) po_none)) (pa_cons (pe_op op_catJ (pe_tup (pa_cons (pe_ix ix_list (pv 10) pe_int (fun _ _ => rfl)) pa_nil)) (pe_slice sl_tupJ (pv 1) (po_some pe_int) po_none)) (pa_cons (pe_ix ix_list (pv 10) pe_int (fun _ _ => rfl)) pa_nil)))))) (pe_u c_l_draw hr (by decide) (by rfl) (pa_cons (pv 0) (pa_cons pe_int pa_nil))) (fun _ _ => rfl))))))))))), ?_⟩
    have kx := (kt.2 t xs rfl ht).2
    refine ⟨_, rfl, qd, ys, rfl, .inr (SqT.of hqd), ?_⟩
    refine ⟨_, rfl, _, rfl, t, xs, rfl, .inr (SqT.of ht), _, 1, rfl, rfl, h, c, _, rfl, hH, by omega, by omega, fun H1 r hH1 s1 r0 r1 => ⟨1, r, rfl, rfl, ?_⟩⟩
    have A1 : Adv h c H H1 := ⟨hH, hH1, s1⟩
    -- the odd ones
    refine ⟨1, rfl, _, rfl, _, rfl, _, 1, rfl, rfl, 10, 30, rfl, rfl, ⟨by decide, by decide, by decide⟩, 10, 30, rfl, rfl, ⟨by decide, by decide, by decide⟩, _, 1, rfl, rfl, Nat.zero_le _, fun a1 h1 => ⟨sz1, fun a2 h2 => ⟨sz2, fun a3 h3 => ⟨_, rfl, sz1, fun a4 h4 => ⟨sz1, fun a5 h5 => ?_⟩⟩⟩⟩⟩
    have t1 := same_new (o := .tup []) h1
    have t2 := same_new (o := .tup [.int 0]) h2
    have t3 := same_new (o := .tup [.int 1, .int 0]) h3
    have t4 := same_new (o := .tup [.int ((ys.length : Nat) : Int)]) h4
    have t5 := same_new (o := .lst [.int 0]) h5
    have t15 := t1.trans (t2.trans (t3.trans (t4.trans t5)))
    have A2 := A1.tr (Adv.sm hH1 t15)
    refine ⟨_, rfl, _, rfl, h, c, .ref st, rfl, A2.b, A2.kz kst, fun H2 o hH2 s2 ko => ?_⟩
    have A23 : Adv h c _ H2 := ⟨A2.b, hH2, s2⟩
    have A3 := A2.tr A23
    have k1 : Kz C 2 H2 (.ref a1) := A23.kz (kz_all ((t2.trans (t3.trans (t4.trans t5))) _ _ (upd_same (a := a1) (o := .tup []))) (by decide : 0 ≤ 1000) rfl)
    have k2 : Kz C 2 H2 (.ref a2) := A23.kz (kz_all ((t3.trans (t4.trans t5)) _ _ (upd_same (a := a2) (o := .tup [.int 0]))) (by decide : 1 ≤ 1000) rfl)
    have k3 : Kz C 2 H2 (.ref a3) := A23.kz (kz_all ((t4.trans t5) _ _ (upd_same (a := a3) (o := .tup [.int 1, .int 0]))) (by decide : 2 ≤ 1000) rfl)
    have k4 : Kz C 2 H2 (.ref a4) := A23.kz (kz_all (t5 _ _ (upd_same (a := a4) (o := .tup [.int ((ys.length : Nat) : Int)]))) (by decide : 1 ≤ 1000) rfl)
    have k5 : Kz C 2 H2 (.ref a5) := A23.kz (kz_lst (upd_same (a := a5) (o := .lst [.int 0])) 2)
    refine ⟨(by decide : 15 ≤ sizeLine), fun l1 hl1 => ?_⟩
    have A34 := Adv.nw (o := .lst [.int 0, .int (-1), .int ((ys.length : Nat) : Int), .int (((ys.length : Nat) : Int) + 1), .bl true, .non, .str "0", .int (10 ^ (30 : Int).toNat), .int (10 ^ (30 : Int).toNat + 1), .ref a1, .ref a2, .ref a3, .ref a4, .ref a5, o]) hH2 hl1
    have hl1h := hH2.nn hl1
    have ks : Kzs C _ [.int 0, .int (-1), .int ((ys.length : Nat) : Int), .int (((ys.length : Nat) : Int) + 1), .bl true, .non, .str "0", .int (10 ^ (30 : Int).toNat), .int (10 ^ (30 : Int).toNat + 1), .ref a1, .ref a2, .ref a3, .ref a4, .ref a5, o] := A34.kzs
      (kzs_cons (kz_flat rfl) (kzs_cons (kz_flat rfl) (kzs_cons (kz_flat rfl) (kzs_cons (kz_flat rfl) (kzs_cons (kz_flat rfl) (kzs_cons (kz_flat rfl) (kzs_cons (kz_flat rfl) (kzs_cons (kz_flat rfl) (kzs_cons (kz_flat rfl) (kzs_cons k1 (kzs_cons k2 (kzs_cons k3 (kzs_cons k4 (kzs_cons k5 (kzs_cons ko kzs_nil)))))))))))))))
    have A4 := A3.tr A34
    refine ⟨_, rfl, _, rfl, h, c, 15, rfl, A4.b, by decide, by decide, fun H5 r5 hH5 s5 r50 r51 => ?_⟩
    have A45 : Adv h c _ H5 := ⟨A4.b, hH5, s5⟩
    have A5 := A4.tr A45
    obtain ⟨nw, hnw, hnwa⟩ := pick_V (xs := [.int 0, .int (-1), .int ((ys.length : Nat) : Int), .int (((ys.length : Nat) : Int) + 1), .bl true, .non, .str "0", .int (10 ^ (30 : Int).toNat), .int (10 ^ (30 : Int).toNat + 1), .ref a1, .ref a2, .ref a3, .ref a4, .ref a5, o]) r50 r51
    have knw : Kz C 1 H5 nw := (A45.kz (ks nw hnw)).down
    refine ⟨l1, _, r5, nw, rfl, rfl, SqL.of (A45.kp upd_same hl1h), hnwa, ?_⟩
    -- the pair
    refine ⟨_, rfl, _, rfl, _, 1, rfl, rfl, h, c, _, rfl, hH5, by omega, by omega, fun H6 u6 hH6 s6 _ _ => ⟨_, rfl, _, rfl, _, 1, rfl, rfl, h, c, _, rfl, hH6, by omega, by omega, fun H7 u7 hH7 s7 _ _ => ⟨sz3, fun pp hpp => ?_⟩⟩⟩
    have A57 : Adv h c H5 H7 := ⟨hH5, hH7, s6.trans s7⟩
    have A7 := A57.tr (Adv.nw (o := .tup [.str "wait", .int u6, .int u7]) hH7 hpp)
    have kpp : Kz C 2 (upd H7 pp (.tup [.str "wait", .int u6, .int u7])) (.ref pp) := kz_all upd_same (by decide : 3 ≤ 1000) rfl
    have A07 := A5.tr A7
    have kx7 := A07.kzs kx
    have knw7 := A7.kz knw
    have ht7 := A07.tp ht
    -- five things
    refine ⟨_, rfl, _, rfl, _, rfl, t, xs, rfl, ht7, fun b1 G1 e1 hb1 => ⟨_, rfl, sz1, fun b2 hb2 => ⟨b1, b2, _, _, rfl, rfl, same_new hb2 _ _ hb1, upd_same, sz_small (by have := cut_le (xs := xs) (lo := none) (hi := some (1 + r)); show _ + 1 ≤ 1000; omega), fun b3 G2 e2 hb3 => ?_⟩⟩⟩
    have f2 := e1.trans ((same_new (o := .tup [nw]) hb2).trans e2)
    refine ⟨_, rfl, _, rfl, _, 1, rfl, rfl, _, rfl, t, xs, rfl, f2 _ _ ht7, fun b4 G3 e3 hb4 => ⟨b3, b4, _, _, rfl, rfl, e3 _ _ hb3, hb4, sz_small ?_, fun b5 G4 e4 hb5 => ?_⟩⟩
    · have := cut_le (xs := xs) (lo := none) (hi := some (1 + r))
      have := cut_le (xs := xs) (lo := some ((1 + r) + 1)) (hi := none)
      rw [List.length_append]
      show _ + 1 + _ ≤ 1000
      omega
    have f4 := f2.trans (e3.trans e4)
    have kb5 : Kz C 2 G4 (.ref b5) := kz_tup hb5 (by
      have := cut_le (xs := xs) (lo := none) (hi := some (1 + r))
      have := cut_le (xs := xs) (lo := some ((1 + r) + 1)) (hi := none)
      rw [List.length_append, List.length_append]
      show _ + 1 + _ ≤ 1000
      omega) fun y hy => by
      rcases List.mem_append.mp hy with hy | hy
      · rcases List.mem_append.mp hy with hy | hy
        · exact Kz.same f4 (kx7 y (cut_sub y hy))
        · rw [List.mem_singleton.mp hy]
          exact Kz.same f4 knw7
      · exact Kz.same f4 (kx7 y (cut_sub y hy))
    have ht4 := f4 _ _ ht7
    refine ⟨_, rfl, _, rfl, _, rfl, t, xs, rfl, ht4, fun b1' G5 e1' hb1' => ⟨_, rfl, sz1, fun b2' hb2' => ⟨b1', b2', _, _, rfl, rfl, same_new hb2' _ _ hb1', upd_same, sz_small (by have := cut_le (xs := xs) (lo := none) (hi := some (1 + r)); show _ + 1 ≤ 1000; omega), fun b3' G6 e2' hb3' => ?_⟩⟩⟩
    have f6 := e1'.trans ((same_new (o := .tup [nw]) hb2').trans e2')
    refine ⟨_, rfl, _, rfl, _, 1, rfl, rfl, _, rfl, t, xs, rfl, f6 _ _ ht4, fun b4' G7 e3' hb4' => ⟨b3', b4', _, _, rfl, rfl, e3' _ _ hb3', hb4', sz_small ?_, fun b5' G8 e4' hb5' => ?_⟩⟩
    · have := cut_le (xs := xs) (lo := none) (hi := some (1 + r))
      have := cut_le (xs := xs) (lo := some ((1 + r) + 1)) (hi := none)
      rw [List.length_append]
      show _ + 1 + _ ≤ 1000
      omega
    have f8 := f4.trans (f6.trans (e3'.trans e4'))
    have f48 := f6.trans (e3'.trans e4')
    have kb5' : Kz C 2 G8 (.ref b5') := kz_tup hb5' (by
      have := cut_le (xs := xs) (lo := none) (hi := some (1 + r))
      have := cut_le (xs := xs) (lo := some ((1 + r) + 1)) (hi := none)
      rw [List.length_append, List.length_append]
      show _ + 1 + _ ≤ 1000
      omega) fun y hy => by
      rcases List.mem_append.mp hy with hy | hy
      · rcases List.mem_append.mp hy with hy | hy
        · exact Kz.same f8 (kx7 y (cut_sub y hy))
        · rw [List.mem_singleton.mp hy]
          exact Kz.same f8 knw7
      · exact Kz.same f8 (kx7 y (cut_sub y hy))
    have ht8 := f8 _ _ ht7
    refine ⟨_, rfl, _, rfl, sz1, fun d1 hd1 => ⟨t, d1, _, _, rfl, rfl, same_new hd1 _ _ ht8, upd_same, sz_small (by show xs.length + 1 ≤ 1000; omega), fun d2 G9 e9 hd2 => ?_⟩⟩
    have f9 := (same_new (o := .tup [.int 0]) hd1).trans e9
    have f79 := f8.trans f9
    have kd2 : Kz C 2 G9 (.ref d2) := kz_tup hd2 (by rw [List.length_append]; show xs.length + 1 ≤ 1000; omega) fun y hy => by
      rcases List.mem_append.mp hy with hy | hy
      · exact Kz.same f79 (kx7 y hy)
      · rw [List.mem_singleton.mp hy]
        exact kz_flat rfl
    refine ⟨_, rfl, 1, rfl, _, rfl, t, xs, rfl, f9 _ _ ht8, fun d3 G10 e10 hd3 => ?_⟩
    have f710 := f79.trans e10
    have kd3 : Kz C 2 G10 (.ref d3) := kz_tup hd3 (by have := cut_le (xs := xs) (lo := none) (hi := some (-1)); omega) fun y hy => Kz.same f710 (kx7 y (cut_sub y hy))
    refine ⟨(by decide : 5 ≤ sizeLine), fun lt hlt => ?_⟩
    have hH10 := A7.b.same f710
    have A10 := A07.tr (Adv.sm A7.b f710)
    have hlth := hH10.nn hlt
    have A1011 := Adv.nw (o := .lst [.ref b5, .ref b5', .ref pp, .ref d2, .ref d3]) hH10 hlt
    have A11 := A10.tr A1011
    have kth : Kzs C _ [.ref b5, .ref b5', .ref pp, .ref d2, .ref d3] := A1011.kzs
      (kzs_cons (Kz.same (f48.trans (f9.trans e10)) kb5) (kzs_cons (Kz.same (f9.trans e10) kb5') (kzs_cons (Kz.same f710 kpp) (kzs_cons (Kz.same e10 kd2) (kzs_cons kd3 kzs_nil)))))
    -- the words
    refine ⟨(by decide : 5 ≤ sizeLine), fun w1 hw1 => ?_⟩
    have A1112 := Adv.nw (o := .tup [.str "row", .str "open", .str "wait", .str "Row", .str ""]) A11.b hw1
    have A12 := A11.tr A1112
    refine ⟨_, rfl, h, c, 5, rfl, A12.b, by decide, by decide, fun H13 r13 hH13 s13 r130 r131 => ?_⟩
    have A1213 : Adv h c _ H13 := ⟨A12.b, hH13, s13⟩
    have A13 := A12.tr A1213
    obtain ⟨wv, hwv, hwva⟩ := pick_V (xs := [.str "row", .str "open", .str "wait", .str "Row", .str ""]) r130 r131
    have fwv : flatV wv = true := by
      have : ([.str "row", .str "open", .str "wait", .str "Row", .str ""] : List V).all flatV = true := rfl
      exact List.all_eq_true.mp this wv hwv
    refine ⟨w1, _, r13, wv, rfl, rfl, SqT.of (A1213.tp upd_same), hwva, ?_⟩
    refine ⟨_, rfl, _, rfl, h, c, .ref st, rfl, A13.b, A13.kz kst, fun H14 ov hH14 s14 kov => ?_⟩
    have A1314 : Adv h c _ H14 := ⟨A13.b, hH14, s14⟩
    have A14 := A13.tr A1314
    refine ⟨sz2, fun lw hlw => ?_⟩
    have hlwh := hH14.nn hlw
    have A1415 := Adv.nw (o := .lst [wv, ov]) hH14 hlw
    have A15 := A14.tr A1415
    have A1115 := A1112.tr (A1213.tr (A1314.tr A1415))
    have hlt15 := A1115.kp upd_same hlth
    have kth15 := A1115.kzs kth
    have kov15 := A1415.kz kov
    have hlw15 : upd H14 lw (.lst [wv, ov]) lw = some (.lst [wv, ov]) := upd_same
    have kx15 := A15.kzs kx
    have ht15 := A15.tp ht
    -- four more
    refine ⟨_, rfl, _, rfl, t, xs, rfl, .inr (SqT.of ht15), fun c1 hc1 => ?_⟩
    have g1 := same_new (o := .lst xs) hc1
    refine ⟨_, rfl, lw, _, 0, wv, rfl, rfl, SqL.of (g1 _ _ hlw15), rfl, sz1, fun c2 hc2 => ?_⟩
    have g2 := g1.trans (same_new (o := .tup [wv]) hc2)
    refine ⟨_, rfl, 1, rfl, t, xs, rfl, g2 _ _ ht15, fun c3 J3 e13 hc3 => ⟨c2, c3, _, _, rfl, rfl, e13 _ _ upd_same, hc3, sz_small (by have := cut_le (xs := xs) (lo := some 1) (hi := none); show 1 + _ ≤ 1000; omega), fun c4 J4 e14 hc4 => ?_⟩⟩
    have g4 := g2.trans (e13.trans e14)
    have kc4 : Kz C 2 J4 (.ref c4) := kz_tup hc4 (by have := cut_le (xs := xs) (lo := some 1) (hi := none); rw [List.length_append]; show 1 + _ ≤ 1000; omega) fun y hy => by
      rcases List.mem_append.mp hy with hy | hy
      · rw [List.mem_singleton.mp hy]
        exact kz_flat fwv
      · exact Kz.same g4 (kx15 y (cut_sub y hy))
    refine ⟨_, rfl, lw, _, 1, ov, rfl, rfl, SqL.of (g4 _ _ hlw15), rfl, sz1, fun c5 hc5 => ?_⟩
    have g5 := g4.trans (same_new (o := .tup [ov]) hc5)
    refine ⟨_, rfl, 1, rfl, t, xs, rfl, g5 _ _ ht15, fun c6 J6 e16 hc6 => ⟨c5, c6, _, _, rfl, rfl, e16 _ _ upd_same, hc6, sz_small (by have := cut_le (xs := xs) (lo := some 1) (hi := none); show 1 + _ ≤ 1000; omega), fun c7 J7 e17 hc7 => ?_⟩⟩
    have g7 := g5.trans (e16.trans e17)
    have g47 := (same_new (o := .tup [ov]) hc5).trans (e16.trans e17)
    have kc7 : Kz C 2 J7 (.ref c7) := kz_tup hc7 (by have := cut_le (xs := xs) (lo := some 1) (hi := none); rw [List.length_append]; show 1 + _ ≤ 1000; omega) fun y hy => by
      rcases List.mem_append.mp hy with hy | hy
      · rw [List.mem_singleton.mp hy]
        exact (Kz.same g7 kov15).down
      · exact Kz.same g7 (kx15 y (cut_sub y hy))
    refine ⟨_, rfl, lw, _, 1, ov, rfl, rfl, SqL.of (g7 _ _ hlw15), rfl, sz4, fun l9 hl9 => ?_⟩
    have g9 := g7.trans (same_new (o := .lst [.ref c1, .ref c4, .ref c7, ov]) hl9)
    refine ⟨lt, l9, _, _, rfl, rfl, g9 _ _ hlt15, upd_same, (by decide : 9 ≤ sizeLine), fun l10 hl10 => ?_⟩
    have n9 := same_new (o := .lst [.ref c1, .ref c4, .ref c7, ov]) hl9
    have n10 := same_new (o := .lst ([.ref b5, .ref b5', .ref pp, .ref d2, .ref d3] ++ [.ref c1, .ref c4, .ref c7, ov])) hl10
    have g10 := g9.trans n10
    have A16 := A15.tr (Adv.sm A15.b g10)
    have hl10h := (A15.b.same g9).nn hl10
    have kc1 : Kz C 2 J7 (.ref c1) := kz_lst ((same_new (o := .tup [wv]) hc2).trans ((e13.trans e14).trans g47) _ _ (upd_same (a := c1) (o := .lst xs))) 2
    have kall : Kzs C _ ([.ref b5, .ref b5', .ref pp, .ref d2, .ref d3] ++ [.ref c1, .ref c4, .ref c7, ov]) := fun y hy => by
      rcases List.mem_append.mp hy with hy | hy
      · exact Kz.same g10 (kth15 y hy)
      · exact Kz.same (n9.trans n10) ((kzs_cons kc1 (kzs_cons (Kz.same g47 kc4) (kzs_cons kc7 (kzs_cons (Kz.same g7 kov15) kzs_nil)))) y hy)
    refine ⟨_, rfl, h, c, 9, rfl, A16.b, by decide, by decide, fun H17 r17 hH17 s17 r170 r171 => ?_⟩
    have A1617 : Adv h c _ H17 := ⟨A16.b, hH17, s17⟩
    have r172 : r17 < ((([V.ref b5, .ref b5', .ref pp, .ref d2, .ref d3] ++ [.ref c1, .ref c4, .ref c7, ov] : List V).length : Nat) : Int) := r171
    obtain ⟨y, hy, hya⟩ := pick_V r170 r172
    exact ⟨l10, _, r17, y, rfl, rfl, SqL.of (A1617.kp upd_same hl10h), hya, q H17 y (A16.tr A1617) (A1617.kz (kall y hy))⟩

end
end Rc
set_option maxHeartbeats 4000000
namespace Rc
open PySem PySem.Spec PyProof.Rows L2
section
variable {P : Program} {w : World} {K : PySem.W.Frag} {mg : Str → Option Value} {base : Heap} {C D : Addr}
/-! the law -/
def pyF : Option Int → PyData
  | none => .none
  | some i => .int i
def pyD (d : Deed) : PyData := .tuple [pyF d.1, .int d.2.1, .tuple (d.2.2.map PyData.int)]
theorem canAll {xs : List PyData} (h : ∀ x ∈ xs, PyData.canLay0 x = true) : PyData.canLayAll0 xs = true := by
  induction xs with
  | nil => rfl
  | cons x r ih =>
    rw [PyData.canLayAll0, h x (List.mem_cons_self ..), ih fun y hy => h y (List.mem_cons_of_mem _ hy)]
    rfl
theorem depAll {xs : List PyData} {n : Nat} (h : ∀ x ∈ xs, PyData.depth x ≤ n) : PyData.depthAll xs ≤ n := by
  induction xs with
  | nil => exact Nat.zero_le _
  | cons x r ih =>
    rw [PyData.depthAll]
    exact Nat.max_le.mpr ⟨h x (List.mem_cons_self ..), ih fun y hy => h y (List.mem_cons_of_mem _ hy)⟩
theorem can_pyD (d : Deed) : PyData.canLay0 (pyD d) = true := by
  unfold pyD
  rw [PyData.canLay0]
  refine canAll fun x hx => ?_
  rcases List.mem_cons.mp hx with e | hx
  · rw [e]
    cases d.1 <;> rfl
  rcases List.mem_cons.mp hx with e | hx
  · rw [e]
    rfl
  · rw [List.mem_singleton.mp hx, PyData.canLay0]
    refine canAll fun y hy => ?_
    obtain ⟨i, _, rfl⟩ := List.mem_map.mp hy
    rfl
theorem dep_pyD (d : Deed) : PyData.depth (pyD d) ≤ 2 := by
  unfold pyD
  rw [PyData.depth]
  refine Nat.succ_le_succ (depAll fun x hx => ?_)
  rcases List.mem_cons.mp hx with e | hx
  · rw [e]
    cases d.1 <;> exact Nat.zero_le _
  rcases List.mem_cons.mp hx with e | hx
  · rw [e]
    exact Nat.zero_le _
  · rw [List.mem_singleton.mp hx, PyData.depth]
    refine Nat.succ_le_succ (depAll fun y hy => ?_)
    obtain ⟨i, _, rfl⟩ := List.mem_map.mp hy
    exact Nat.le_refl _
/-- a standing's parts as data -/
def pyS (cells head : Int) (ds : List Deed) : PyData := .tuple [.int cells, .int head, .tuple (ds.map pyD)]
theorem shaped_pyS (cells head : Int) (ds : List Deed) : SeqAt.shaped (pyS cells head ds) = true := by
  unfold SeqAt.shaped
  rw [Bool.and_eq_true]
  constructor
  · unfold pyS
    rw [PyData.canLay0]
    refine canAll fun x hx => ?_
    rcases List.mem_cons.mp hx with e | hx
    · rw [e]
      rfl
    rcases List.mem_cons.mp hx with e | hx
    · rw [e]
      rfl
    · rw [List.mem_singleton.mp hx, PyData.canLay0]
      refine canAll fun y hy => ?_
      obtain ⟨d, _, rfl⟩ := List.mem_map.mp hy
      exact can_pyD d
  · refine decide_eq_true (Nat.le_trans ?_ (by decide : 4 ≤ 64))
    unfold pyS
    rw [PyData.depth]
    refine Nat.succ_le_succ (depAll fun x hx => ?_)
    rcases List.mem_cons.mp hx with e | hx
    · rw [e]
      exact Nat.zero_le _
    rcases List.mem_cons.mp hx with e | hx
    · rw [e]
      exact Nat.zero_le _
    · rw [List.mem_singleton.mp hx, PyData.depth]
      refine Nat.succ_le_succ (depAll fun y hy => ?_)
      obtain ⟨d, _, rfl⟩ := List.mem_map.mp hy
      exact dep_pyD d
theorem eqv_pyS (cells head : Int) (ds : List Deed) : PyData.eqv (pyS cells head ds) (pyS cells head ds) = true :=
  SeqAt.eqv_refl _ (SeqAt.canLay_of_shaped (shaped_pyS cells head ds))
section
variable {K : PySem.W.Frag}
theorem dp_ints {H : Hp} : ∀ ws : List Int, DpAll K H (iV ws) (ws.map PyData.int)
  | [] => .nil
  | x :: r => .cons (.int x) (dp_ints r)
theorem dp_f {H : Hp} : ∀ f : Option Int, Dp K H (fV f) (pyF f)
  | none => .non
  | some i => .int i
theorem dp_deed {H : Hp} {v : V} {d : Deed} (h : DeedAt H v d) : Dp K H v (pyD d) := by
  obtain ⟨p, q, rfl, h1, h2⟩ := h
  exact .tup (SqT.of h1) (.cons (dp_f d.1) (.cons (.int d.2.1) (.cons (.tup (SqT.of h2) (dp_ints d.2.2)) .nil)))
theorem dp_ds {H : Hp} : ∀ {vs : List V} {ds : List Deed}, DsAt H vs ds → DpAll K H vs (ds.map pyD)
  | [], [], _ => .nil
  | [], _ :: _, h => by
    have := h.len
    simp at this
  | _ :: _, [], h => by
    have := h.len
    simp at this
  | v :: vs, d :: ds, h => by
    refine .cons ?_ (dp_ds ⟨by have := h.len; simpa using this, fun i x hi => h.at_ (i + 1) x hi⟩)
    obtain ⟨d', e1, e2⟩ := h.at_ 0 v rfl
    cases e1
    exact dp_deed e2
theorem dp_S {H : Hp} {p q : Addr} {cells head : Int} {ys : List V} {ds : List Deed} (h1 : H p = some (.tup [.int cells, .int head, .ref q])) (h2 : H q = some (.tup ys)) (h3 : DsAt H ys ds) : Dp K H (.ref p) (pyS cells head ds) :=
  .tup (SqT.of h1) (.cons (.int cells) (.cons (.int head) (.cons (.tup (SqT.of h2) (dp_ds h3)) .nil)))
end
theorem dueB_same {ds : List Deed} {H H' : Hp} (s : Same H H') {x : V} (k : Kn C 1 H x) : dueB ds H' x = dueB ds H x := by
  unfold dueB
  rw [tupOf_same s k.kb]
  cases e : tupOf H x with
  | none => rfl
  | some xs =>
    obtain ⟨t, rfl, ht⟩ := tupOf_some e
    have kx : ∀ y ∈ xs, Kb C H y := fun y hy => k.2 t xs rfl ht y hy
    show dueT ds H' xs = dueT ds H xs
    match xs, kx with
    | [], _ => rfl
    | x0 :: r, kx =>
      cases x0 with
      | str z =>
        show dueW ds H' z r = dueW ds H z r
        match r, kx with
        | [], _ => rfl
        | [a], _ => rfl
        | [a, b], _ => rfl
        | [a, b, c], kx =>
          show (if z = ("row" : Str) then rowB ds.length a b c else if z = ("open" : Str) then openB ds.length H' a b c else false) = (if z = ("row" : Str) then rowB ds.length a b c else if z = ("open" : Str) then openB ds.length H a b c else false)
          have e : openB ds.length H' a b c = openB ds.length H a b c := by
            unfold openB
            rw [lotB_same (C := C) s (kx c (by simp))]
          rw [e]
        | a :: b :: c :: d :: r, _ => rfl
      | _ => rfl
def ds0 (n : Nat) : List Deed := List.replicate n noDeed
theorem ds0_get {n i : Nat} {d : Deed} (h : (ds0 n)[i]? = some d) : d = noDeed := by
  have := List.mem_of_getElem? h
  exact (List.mem_replicate.mp this).2
theorem ds0_waits {n : Nat} {ws : List Int} (h : ws ∈ waitsL (ds0 n)) : ws = [] := by
  obtain ⟨d, hd, rfl⟩ := List.mem_map.mp h
  rw [(List.mem_replicate.mp hd).2]
  rfl
theorem ds0_len (n : Nat) : (ds0 n).length = n := List.length_replicate ..
theorem good0 (n : Nat) : Good (ds0 n) where
  inr := fun ws h x hx => by
    rw [ds0_waits h] at hx
    cases hx
  asc := fun ws h => by
    rw [ds0_waits h]
    exact List.Pairwise.nil
  few := ⟨[], by decide, fun ws h x hx => by
    rw [ds0_waits h] at hx
    cases hx⟩
theorem wf_ds0 {n : Nat} (h : n ≤ 200) : WF 0 (ds0 n) where
  h0 := Int.le_refl _
  h1 := by decide
  pre := ⟨0, Nat.zero_le _, fun i d hi => by
    rw [ds0_get hi]
    exact ⟨fun z => (by cases z), fun z => (by omega)⟩⟩
  fst := fun i d f hi hf => by
    rw [ds0_get hi] at hf
    cases hf
  asc := fun i j d e f g _ hi _ hf => by
    rw [ds0_get hi] at hf
    cases hf
  need := fun d hd => by
    rw [(List.mem_replicate.mp hd).2]
    exact ⟨by decide, by decide⟩
  good := good0 n
  nr := noRing_rank (rk := fun _ => 0) (fun ws hw y hy => by rw [ds0_waits hw] at hy; cases hy) fun i ws hw y hy => by
    rw [ds0_waits (List.mem_of_getElem? hw)] at hy
    cases hy
  len := by
    rw [ds0_len]
    exact h
theorem DsAt.rep {H : Hp} {p e : Addr} (h1 : H p = some (.tup [.non, .int 0, .ref e])) (h2 : H e = some (.tup [])) (n : Nat) : DsAt H (List.replicate n (.ref p)) (ds0 n) := by
  refine ⟨by rw [List.length_replicate, ds0_len], fun i v hi => ?_⟩
  obtain ⟨a1, a2⟩ := List.getElem?_eq_some_iff.mp hi
  rw [List.getElem_replicate] at a2
  rw [List.length_replicate] at a1
  refine ⟨noDeed, ?_, p, e, a2.symm, h1, h2⟩
  unfold ds0
  rw [List.getElem?_replicate, if_pos a1]
theorem room_ds0 (n : Nat) : Room0 5 0 (ds0 n) := fun d f hi hf => by
  rw [ds0_get hi] at hf
  cases hf
theorem due0 {H : Hp} {t e : Addr} {r : Int} {n : Nat} (h1 : H t = some (.tup [.str "open", .int r, .int 0, .ref e])) (h2 : H e = some (.tup [])) (r0 : 0 ≤ r) (r1 : r < 2) : dueB (ds0 n) H (.ref t) = decide (n < 200) := by
  rw [dueB_at h1]
  show dueW (ds0 n) H ("open" : Str) [.int r, .int 0, .ref e] = _
  show (if ("open" : Str) = ("row" : Str) then rowB (ds0 n).length (.int r) (.int 0) (.ref e) else if ("open" : Str) = ("open" : Str) then openB (ds0 n).length H (.int r) (.int 0) (.ref e) else false) = _
  rw [if_neg ro.symm, if_pos rfl]
  unfold openB
  have e1 : within (.int r) 0 E30 = true := within_int r0 (Int.le_trans (Int.le_of_lt r1) (by decide))
  have e2 : within (.int 0) 0 E30 = true := within_int (Int.le_refl _) (by decide)
  have e3 : lotB ((ds0 n).length : Int) H (.ref e) = true := by
    unfold lotB
    rw [tupOf_at h2]
    rfl
  rw [e1, e2, e3, ds0_len, Bool.true_and, Bool.true_and, Bool.and_true]
theorem okF_of {x : Str} {st : Stmt} {f : Addr} {fd : FuncData} {N ps : List Str} {k : Nat} {sp : Sp} (F : FnP K x x st f fd) (S : FnScope N ps (defScope st)) (len : ∀ vs H Q E, sp vs H Q E → vs.length = ps.length)
    (hbody : ∀ (cdv : Value) (A : Around) (outer : List Env) (s : Shared) (H : Hp) (vs : List V) (Q : VK) (E : XK), Room k (A.deeper (envOfC x (defScope st) s.heap.objs.size f cdv)) → sp vs H Q E →
      ∃ t, PSs (cxOf CX0 P w K mg base N x (defScope st) f cdv A outer s H E).nox (defBody st) t ∧ t { nx := fun _ H' => Q .non H', rt := Q } (start N vs) H) : FnOk P w K mg base CX0 (k + 1) f fd ps sp := by
  refine F.ok S len fun cdv A outer s H vs Q E hr hsp => ?_
  obtain ⟨t, h, q⟩ := hbody cdv A outer s H vs Q E hr hsp
  exact ⟨t, h.nox, q⟩
def spLaw (K : PySem.W.Frag) : Sp := fun vs H Q _ => ∃ (a : Addr) (ns : List Int), vs = [.ref a] ∧ SqL K H a (iV ns) ∧ ns.length ≤ 63 ∧ ∀ H', Q (.bl true) H'
/-- a standing as the instance at s -/
def StAtX (C : Addr) (H : Hp) (s dx : Addr) (cells head : Int) (q : Addr) : Prop := H s = some (.ins C dx (stF (.int cells) (.int head) (.ref q)))
theorem c_law {f : Addr} {fd : FuncData} (T : Txt K w mg C D) (F : FnP K "law" "law" s_law f fd) (c_l_hand : Cal P w K mg base 1 "_law_hand" (spHand K)) (c_l_draw : Cal P w K mg base 1 "_law_draw" (spDraw)) (c_l_parts : Cal P w K mg base 5 "_law_parts" (spParts)) (c_l_wish : Cal P w K mg base 2 "_law_wish" (spWish C)) (c_l_bent : Cal P w K mg base 3 "_law_bent" (spBent C)) (c_l_is_due : Cal P w K mg base 3 "_law_is_due" (spIsDue C)) (c_is_wish : Cal P w K mg base 5 "is_wish" (spIsWish C)) (c_behind : Cal P w K mg base 11 "behind" (spBehind C)) (c_l_behind : Cal P w K mg base 2 "_law_behind" (spLBehind)) (M : MakS P w K mg base 6 "Standing" C (spInit C)) : FnOk P w K mg base CX0 12 f fd P_law (spLaw K) := by
  refine okF_of F sc_law (fun vs H Q E h => ?_) (fun cdv A outer s H vs Q E hr h => ?_)
  · obtain ⟨a, ns, rfl, _⟩ := h
    rfl
  · obtain ⟨a, ns, rfl, hS, hl, q⟩ := h
    refine ⟨_, (pss_cons (ps_set (i := 1) sc_law.nd rfl (Or.inl rfl) (pe_u c_l_hand hr (by decide) (by rfl) (pa_cons (pv 0) pa_nil))) (pss_cons (ps_for PassesOwn.never rfl (pi_range1 (by rfl) T.b_range (pa_cons pe_int pa_nil)) (pg_name (i := 2) sc_law.nd rfl (Or.inl rfl)) (pss_cons (ps_set (i := 3) sc_law.nd rfl (Or.inl rfl) (pe_u c_l_parts hr (by decide) (by rfl) (pa_cons (pv 1) (pa_cons (pe_u c_l_draw hr (by decide) (by rfl) (pa_cons (pv 1) (pa_cons pe_int pa_nil))) (pa_cons pe_int (pa_cons (pe_ix ix_list (pe_lst (pa_cons pe_int (pa_cons pe_int (pa_cons pe_int pa_nil)))) (pe_u c_l_draw hr (by decide) (by rfl) (pa_cons (pv 1) (pa_cons pe_int pa_nil))) (fun _ _ => rfl)) pa_nil)))))) (pss_cons (ps_set (i := 4) sc_law.nd rfl (Or.inl rfl) (pe_mkS M hr (by decide) (by rfl) (pa_cons (pe_ix ix_tup (pv 3) pe_int (fun _ _ => rfl)) (pa_cons (pe_ix ix_tup (pv 3) pe_int (fun _ _ => rfl)) (pa_cons (pe_ix ix_tup (pv 3) pe_int (fun _ _ => rfl)) pa_nil))))) (pss_cons (ps_for PassesOwn.never rfl (pi_range1 (by rfl) T.b_range (pa_cons pe_int pa_nil)) (pg_name (i := 5) sc_law.nd rfl (Or.inl rfl)) (pss_cons (ps_set (i := 6) sc_law.nd rfl (Or.inl rfl) (pe_u c_l_wish hr (by decide) (by rfl) (pa_cons (pv 1) (pa_cons (pv 3) (pa_cons pe_int (pa_cons pe_bl pa_nil)))))) (Evl.pss_cut (ps_if (pt_cmpR op_gt (pv 5) pe_int (nomark _)) (pss_one (ps_set (i := 6) sc_law.nd rfl (Or.inl rfl) (pe_u c_l_bent hr (by decide) (by rfl) (pa_cons (pv 1) (pa_cons (pv 6) (pa_cons (pe_ix ix_tup (pv 3) pe_int (fun _ _ => rfl)) (pa_cons (pv 4) pa_nil))))))) pss_nil) (pss_cons (ps_set (i := 7) sc_law.nd rfl (Or.inl rfl) (pe_u c_l_is_due hr (by decide) (by rfl) (pa_cons (pe_ix ix_tup (pv 3) pe_int (fun _ _ => rfl)) (pa_cons (pv 6) pa_nil)))) (pss_cons (ps_if (PW.pt (pw_or (pt_not (pt_val (pe_callB (isi_bool T.ins T.kB) (by rfl) T.b_isinstance bt_isinstance (pa_cons (pe_u c_is_wish hr (by decide) (by rfl) (pa_cons (pv 4) (pa_cons (pv 6) pa_nil))) (pa_cons (pe_bltn (v := .ty "bool") (by rfl) T.b_bool bt_bool rfl) pa_nil))))) (pw_or1 (pt_cmpR op_ne (pe_u c_is_wish hr (by decide) (by rfl) (pa_cons (pv 4) (pa_cons (pv 6) pa_nil))) (pv 7) (nomark _))))) (pss_one (ps_ret pe_bl)) pss_nil) (pss_one (ps_if (pt_val (pv 7)) (pss_cons (ps_set (i := 8) sc_law.nd rfl (Or.inl rfl) (pe_u c_behind hr (by decide) (by rfl) (pa_cons (pv 4) (pa_cons (pv 6) pa_nil)))) (pss_one (ps_if (PW.pt (pw_or (pt_not (pt_val (pe_callB (C8.call_isC T.ins) (by rfl) T.b_isinstance bt_isinstance (pa_cons (pv 8) (pa_cons (pe_glob (v := .ref C) (by rfl) T.mgC rfl) pa_nil))))) (pw_or1 (pt_cmpR (op_neD hr.units) (pe_tup (pa_cons (pe_fld (pv 8) rfl) (pa_cons (pe_fld (pv 8) rfl) (pa_cons (pe_fld (pv 8) rfl) pa_nil)))) (pe_u c_l_behind hr (by decide) (by rfl) (pa_cons (pv 3) (pa_cons (pv 6) pa_nil))) (nomark _))))) (pss_one (ps_ret pe_bl)) pss_nil))) pss_nil))))))) (pss_one (ps_if (pt_cmpR (op_neD hr.units) (pe_tup (pa_cons (pe_fld (pv 4) rfl) (pa_cons (pe_fld (pv 4) rfl) (pa_cons (pe_fld (pv 4) rfl) pa_nil)))) (pv 3) (nomark _)) (pss_one (ps_ret pe_bl)) pss_nil)))))) (pss_cons (ps_if (pt_cmpR op_gt (pe_u c_l_draw hr (by decide) (by rfl) (pa_cons (pv 1) (pa_cons pe_int pa_nil))) pe_int (nomark _)) (pss_one (ps_ret pe_bl)) pss_nil) (pss_cons (ps_set (i := 6) sc_law.nd rfl (Or.inl rfl) (pe_tup (pa_cons pe_str (pa_cons (pe_u c_l_draw hr (by decide) (by rfl) (pa_cons (pv 1) (pa_cons pe_int pa_nil))) (pa_cons pe_int (pa_cons (pe_tup pa_nil) pa_nil)))))) (pss_cons (ps_if (pt_cmpR op_isnot_bl (pe_u c_is_wish hr (by decide) (by rfl) (pa_cons (pe_mkS M hr (by decide) (by rfl) (pa_cons pe_int (pa_cons pe_int (pa_cons (pe_op op_repT (pe_tup (pa_cons (pe_tup (pa_cons pe_non (pa_cons pe_int (pa_cons (pe_tup pa_nil) pa_nil)))) pa_nil)) pe_int) pa_nil)))) (pa_cons (pv 6) pa_nil))) pe_bl (nomark _)) (pss_one (ps_ret pe_bl)) pss_nil) (pss_one (ps_ret (pe_cmpR op_is_bl (pe_u c_is_wish hr (by decide) (by rfl) (pa_cons (pe_mkS M hr (by decide) (by rfl) (pa_cons pe_int (pa_cons pe_int (pa_cons (pe_op op_repT (pe_tup (pa_cons (pe_tup (pa_cons pe_non (pa_cons pe_int (pa_cons (pe_tup pa_nil) pa_nil)))) pa_nil)) pe_int) pa_nil)))) (pa_cons (pv 6) pa_nil))) pe_bl (nomark _))))))))), ?_⟩
    refine ⟨_, rfl, a, ns, rfl, hS, hl, fun H1 h c hH1 => ?_⟩
    refine ⟨4, rfl, by decide, by decide, for_range (fun i σ H' => HandC H' h c ∧ ∃ (v2 v3 v4 v5 v6 v7 v8 : Option V), σ = [some (.ref a), some (.ref h), v2, v3, v4, v5, v6, v7, v8])
      ⟨hH1, _, _, _, _, _, _, _, rfl⟩ ?_ ?_⟩
    · rintro i σ H1 hi ⟨hH1, v2, v3, v4, v5, v6, v7, v8, rfl⟩
      refine ⟨_, rfl, _, rfl, h, c, 8, rfl, hH1, by decide, by decide, fun H2 n hH2 s2 n0 n1 => ⟨sz3, fun l1 hl1 => ?_⟩⟩
      have hl1h := hH2.nn hl1
      have A2 := Adv.nw (o := .lst [.int 0, .int 3, .int 6]) hH2 hl1
      refine ⟨_, rfl, h, c, 3, rfl, A2.b, by decide, by decide, fun H3 r hH3 s3 r0 r1 => ?_⟩
      obtain ⟨sh, hsh, hsha⟩ := pick_at (xs := [0, 3, 6]) r0 r1
      have sh0 : 0 ≤ sh ∧ sh ≤ 6 := by
        simp at hsh
        omega
      have A23 : Adv h c _ H3 := ⟨A2.b, hH3, s3⟩
      obtain ⟨n', rfl⟩ : ∃ n' : Nat, n = (n' : Int) := ⟨n.toNat, by omega⟩
      refine ⟨l1, _, r, .int sh, rfl, rfl, SqL.of (A23.kp upd_same hl1h), hsha, h, c, n', 6, sh, rfl, hH3, by omega, by decide, by decide, sh0.1, by omega, fun H4 p qa ys ds head cells hH4 s4 hp hqa hd L hc1 hc2 hR => ?_⟩
      have hln := hd.len
      refine ⟨_, rfl, p, _, 0, _, rfl, rfl, SqT.of hp, rfl, _, rfl, p, _, 1, _, rfl, rfl, SqT.of hp, rfl, _, rfl, p, _, 2, _, rfl, rfl, SqT.of hp, rfl, fun s dx hs hdx hne => ?_⟩
      have hqs : qa ≠ s := ne_of_none hqa hs
      have hqx : qa ≠ dx := ne_of_none hqa hdx
      have sx : Same H4 (upd (upd H4 dx (.own s)) s (.ins C dx [])) := Same.made hs hdx fun b o e _ => e
      refine ⟨s, dx, cells, head, qa, ys, ds, rfl, upd_same, sx _ _ hqa, hd.same sx, ⟨hc1, Int.le_trans hc2 (by decide)⟩, L.wf, hR, fun H5 h5 k5 => ⟨rfl, ?_⟩⟩
      have s5 : Same H4 H5 := Same.made hs hdx fun b o e hb => k5 b o hb e
      have hH5 := hH4.same s5
      have hp5 := s5 _ _ hp
      have hqa5 := s5 _ _ hqa
      have hd5 := hd.same s5
      have hsh' : s ≠ h := hH4.nn hs
      refine ⟨3, rfl, by decide, by decide, for_range (fun j σ H' => Adv h c H5 H' ∧ ∃ (v5 v6 v7 v8 : Option V), σ = [some (.ref a), some (.ref h), some (.int (0 + (i : Nat))), some (.ref p), some (.ref s), v5, v6, v7, v8])
        ⟨Adv.sm hH5 (Same.refl _), _, _, _, _, rfl⟩ ?_ ?_⟩
      · rintro j σ H6 hj ⟨A6, v5, v6, v7, v8, rfl⟩
        refine ⟨_, rfl, _, rfl, h, c, p, qa, 7, cells, head, ys, ds, rfl, A6.b, by decide, by decide, A6.tp hp5, A6.tp hqa5, hd5.draw A6.a A6.s, L, fun H7 t xs hH7 s7 ht kt x3 x4 => ?_⟩
        have A7 := A6.tr ⟨A6.b, hH7, s7⟩
        have kst7 : Kz C 2 H7 (.ref s) := kz_ins (A7.kp h5 hsh') 2
        refine ⟨fun σ' H' => Adv h c H5 H' ∧ ∃ (x : V) (v7 v8 : Option V), σ' = [some (.ref a), some (.ref h), some (.int (0 + (i : Nat))), some (.ref p), some (.ref s), some (.int (0 + (j : Nat))), some x, v7, v8] ∧ Kz C 2 H' x, ?_, ?_⟩
        · refine ⟨_, rfl, _, 0, rfl, rfl, _, rfl, ite2 (fun hb => ?_) (fun hb => ?_)⟩
          · refine ⟨_, rfl, _, rfl, _, rfl, p, _, 2, .ref qa, rfl, rfl, SqT.of (A7.tp hp5), rfl, _, rfl, h, c, t, qa, s, xs, ys, rfl, hH7, ht, x3, x4, kt, A7.tp hqa5, by have := L.n7; omega, kst7, fun H8 y A78 ky => ?_⟩
            exact ⟨A7.tr A78, y, _, _, rfl, ky⟩
          · exact ⟨A7, .ref t, _, _, rfl, kt⟩
        · rintro σ H8 ⟨A8, x, v7, v8, rfl, kx⟩
          have hp8 := A8.tp hp5
          have hqa8 := A8.tp hqa5
          have hd8 := hd5.draw A8.a A8.s
          have hst8 : StD C H8 s cells head ds := ⟨qa, ys, ⟨dx, A8.kp h5 hsh'⟩, hqa8, hd8⟩
          have hgood := L.wf.good
          refine ⟨_, rfl, p, _, 2, .ref qa, rfl, rfl, SqT.of hp8, rfl, _, rfl, qa, ys, ds, x, rfl, hqa8, hd8, L.n7, hgood, kx, fun H9 s9 => ?_⟩
          have kx9 := Kz.same s9 kx
          refine ⟨_, rfl, _, rfl, s, cells, head, ds, x, rfl, hst8.same s9, L.wf.len, hgood, kx9.kn, fun H10 s10 => ⟨_, rfl, True.intro, true, rfl, iteF ?_⟩⟩
          have s8_10 := s9.trans s10
          have kx10 := Kz.same s8_10 kx
          refine ⟨_, rfl, _, rfl, s, cells, head, ds, x, rfl, hst8.same s8_10, L.wf.len, hgood, kx10.kn, fun H11 s11 => ⟨_, rfl, rfl, false, ?_, iteF ?_⟩⟩
          · have e : dueB ds H10 x = dueB ds H8 x := dueB_same s8_10 kx.down.kn
            show V.bl (!decide (V.bl (dueB ds H10 x) = V.bl (dueB ds H8 x))) = V.bl false
            rw [e, decide_eq_true rfl]
            rfl
          have s8_11 := s8_10.trans s11
          have hst11 := hst8.same s8_11
          have kx11 := Kz.same s8_11 kx
          have A11 := A8.tr (Adv.sm A8.b s8_11)
          refine ⟨_, rfl, _, rfl, ite2 (fun hb => ?_) (fun hb => ?_)⟩
          · have hdue8 : dueB ds H8 x = true := hb
            have hdue : dueB ds H11 x = true := by
              rw [dueB_same s8_11 kx.down.kn]
              exact hdue8
            obtain ⟨t, w, rfl, hw, hok⟩ := due_wish hdue
            refine ⟨_, rfl, _, rfl, s, cells, head, ds, t, w, rfl, hst11, L.wf, kx11.kn, hdue, hw, hok, fun H12 s' s12 hst' => ?_⟩
            obtain ⟨qb, zs, ⟨dxb, hsb⟩, hqb, hzb⟩ := hst'
            refine ⟨_, rfl, s', dxb, _, rfl, hsb, true, rfl, iteF ?_⟩
            refine ⟨_, rfl, s', C, dxb, _, .int cells, rfl, hsb, T.cl, T.nC, rfl, _, rfl, s', C, dxb, _, .int (head + more w), rfl, hsb, T.cl, T.nH, rfl, _, rfl, s', C, dxb, _, .ref qb, rfl, hsb, T.cl, T.nD, rfl, sz3, fun tl htl => ?_⟩
            have s13 := same_new (o := .tup [.int cells, .int (head + more w), .ref qb]) htl
            have s8_13 := s8_11.trans (s12.trans s13)
            refine ⟨_, rfl, _, rfl, p, t, qa, cells, head, ys, ds, w, rfl, s8_13 _ _ hp8, s8_13 _ _ hqa8, hd8.same s8_13, L.wf, hw.same (s12.trans s13), hok, fun H14 p' q' us s14 hp' hq' hus => ?_⟩
            refine ⟨pyS cells (head + more w) (after (stepD head ds w)), pyS cells (head + more w) (after (stepD head ds w)), dp_S (s14 _ _ upd_same) (s14 _ _ (s13 _ _ hqb)) (hzb.same (s13.trans s14)), dp_S hp' hq' hus, shaped_pyS _ _ _, shaped_pyS _ _ _, false, ?_, iteF ?_⟩
            · rw [eqv_pyS]
              rfl
            · exact ⟨A11.tr (Adv.sm A11.b (s12.trans (s13.trans s14))), _, _, _, _, rfl⟩
          · exact ⟨A11, _, _, _, _, rfl⟩
      · rintro σ H6 ⟨A6, v5, v6, v7, v8, rfl⟩
        have hs6 := A6.kp h5 hsh'
        refine ⟨_, rfl, s, C, dx, _, .int cells, rfl, hs6, T.cl, T.nC, rfl, _, rfl, s, C, dx, _, .int head, rfl, hs6, T.cl, T.nH, rfl, _, rfl, s, C, dx, _, .ref qa, rfl, hs6, T.cl, T.nD, rfl, sz3, fun tl htl => ?_⟩
        have s7 := same_new (o := .tup [.int cells, .int head, .ref qa]) htl
        refine ⟨_, rfl, pyS cells head ds, pyS cells head ds, dp_S upd_same (s7 _ _ (A6.tp hqa5)) ((hd5.draw A6.a A6.s).same s7), dp_S (s7 _ _ (A6.tp hp5)) (s7 _ _ (A6.tp hqa5)) ((hd5.draw A6.a A6.s).same s7), shaped_pyS _ _ _, shaped_pyS _ _ _, false, ?_, iteF ?_⟩
        · rw [eqv_pyS]
          rfl
        · exact ⟨A6.b.same s7, _, _, _, _, _, _, _, rfl⟩
    · rintro σ H1 ⟨hH1, v2, v3, v4, v5, v6, v7, v8, rfl⟩
      refine ⟨_, rfl, h, c, 6, rfl, hH1, by decide, by decide, fun H2 r hH2 _ r0 r1 => ⟨_, 0, rfl, rfl, _, rfl, ite2 (fun hb => ?_) (fun hb => ?_)⟩⟩
      · exact q _
      refine ⟨_, rfl, h, c, 2, rfl, hH2, by decide, by decide, fun H3 r hH3 _ r0 r1 => ⟨Nat.zero_le _, fun e1 he1 => ⟨sz4, fun t ht => ?_⟩⟩⟩
      have u1 := same_new (o := .tup []) he1
      have u2 := same_new (o := .tup [.str "open", .int r, .int 0, .ref e1]) ht
      have gt : (upd (upd H3 e1 (.tup [])) t (.tup [.str "open", .int r, .int 0, .ref e1])) t = some (.tup [.str "open", .int r, .int 0, .ref e1]) := upd_same
      have ge := u2 _ _ (upd_same (H := H3) (a := e1) (o := .tup []))
      have kw : Kz C 2 (upd (upd H3 e1 (.tup [])) t (.tup [.str "open", .int r, .int 0, .ref e1])) (.ref t) := kz_tup gt (by decide : 4 ≤ 1000) fun y hy => by
        rcases List.mem_cons.mp hy with e | hy
        · rw [e]
          exact kz_flat rfl
        rcases List.mem_cons.mp hy with e | hy
        · rw [e]
          exact kz_flat rfl
        rcases List.mem_cons.mp hy with e | hy
        · rw [e]
          exact kz_flat rfl
        · rw [List.mem_singleton.mp hy]
          exact kz_all ge (by decide : 0 ≤ 1000) rfl
      refine ⟨Nat.zero_le _, fun e2 he2 => ⟨sz3, fun e3 he3 => ⟨sz1, fun e4 he4 => ⟨e4, 200, [.ref e3], rfl, rfl, SqT.of upd_same, by simp, by decide, by decide, (by decide : 1 ≤ 1000), fun pr hpr => fun s dx hs hdx hne => ?_⟩⟩⟩⟩
      have w2 := same_new (o := .tup []) he2
      have w3 := same_new (o := .tup [.non, .int 0, .ref e2]) he3
      have w4 := same_new (o := .tup [.ref e3]) he4
      have w5 := same_new (o := .tup (List.replicate (200 : Int).toNat [V.ref e3]).flatten) hpr
      have w14 := w2.trans (w3.trans (w4.trans w5))
      have sx := Same.made (C := C) hs hdx fun b o e _ => e
      have er : (List.replicate (200 : Int).toNat [V.ref e3]).flatten = List.replicate 200 (.ref e3) := rep_flat 200 _
      have dA := DsAt.rep ((w4.trans w5) _ _ (upd_same (a := e3) (o := .tup [.non, .int 0, .ref e2]))) ((w3.trans (w4.trans w5)) _ _ (upd_same (a := e2) (o := .tup []))) 200
      refine ⟨s, dx, 5, 0, pr, List.replicate 200 (.ref e3), ds0 200, rfl, upd_same, ?_, dA.same sx, ⟨by decide, by decide⟩, wf_ds0 (by decide), room_ds0 200, fun H5 h5 k5 => ⟨rfl, ?_⟩⟩
      · rw [← er]
        exact sx _ _ upd_same
      have s5 := Same.made (C := C) (H1 := H5) hs hdx fun b o e hb => k5 b o hb e
      have z5 := w14.trans s5
      have hst : StD C H5 s 5 0 (ds0 200) := ⟨pr, _, ⟨dx, h5⟩, by rw [← er]; exact s5 _ _ upd_same, dA.same s5⟩
      refine ⟨_, rfl, s, 5, 0, ds0 200, .ref t, rfl, hst, by rw [ds0_len]; decide, good0 200, (Kz.same z5 kw).kn, fun H6 s6 => ⟨false, false, congrArg V.bl ?_, rfl, false, rfl, iteF ?_⟩⟩
      · rw [due0 (z5 _ _ gt) (z5 _ _ ge) r0 r1]
        rfl
      have z6 := z5.trans s6
      have kw6 := Kz.same z6 kw
      have gt6 := z6 _ _ gt
      have ge6 := z6 _ _ ge
      refine ⟨Nat.zero_le _, fun e2 he2 => ⟨sz3, fun e3 he3 => ⟨sz1, fun e4 he4 => ⟨e4, 199, [.ref e3], rfl, rfl, SqT.of upd_same, by simp, by decide, by decide, (by decide : 1 ≤ 1000), fun pr hpr => fun s dx hs hdx hne => ?_⟩⟩⟩⟩
      have w2 := same_new (o := .tup []) he2
      have w3 := same_new (o := .tup [.non, .int 0, .ref e2]) he3
      have w4 := same_new (o := .tup [.ref e3]) he4
      have w5 := same_new (o := .tup (List.replicate (199 : Int).toNat [V.ref e3]).flatten) hpr
      have w14 := w2.trans (w3.trans (w4.trans w5))
      have sx := Same.made (C := C) hs hdx fun b o e _ => e
      have er : (List.replicate (199 : Int).toNat [V.ref e3]).flatten = List.replicate 199 (.ref e3) := rep_flat 199 _
      have dA := DsAt.rep ((w4.trans w5) _ _ (upd_same (a := e3) (o := .tup [.non, .int 0, .ref e2]))) ((w3.trans (w4.trans w5)) _ _ (upd_same (a := e2) (o := .tup []))) 199
      refine ⟨s, dx, 5, 0, pr, List.replicate 199 (.ref e3), ds0 199, rfl, upd_same, ?_, dA.same sx, ⟨by decide, by decide⟩, wf_ds0 (by decide), room_ds0 199, fun H7 h7 k7 => ⟨rfl, ?_⟩⟩
      · rw [← er]
        exact sx _ _ upd_same
      have s7 := Same.made (C := C) (H1 := H7) hs hdx fun b o e hb => k7 b o hb e
      have z7 := w14.trans s7
      have hst : StD C H7 s 5 0 (ds0 199) := ⟨pr, _, ⟨dx, h7⟩, by rw [← er]; exact s7 _ _ upd_same, dA.same s7⟩
      refine ⟨_, rfl, s, 5, 0, ds0 199, .ref t, rfl, hst, by rw [ds0_len]; decide, good0 199, (Kz.same z7 kw6).kn, fun H8 s8 => ⟨true, true, congrArg V.bl ?_, rfl, ?_⟩⟩
      · rw [due0 (z7 _ _ gt6) (z7 _ _ ge6) r0 r1]
        rfl
      · exact q _

end
end Rc
set_option maxHeartbeats 0
namespace Rc
open PySem PySem.Spec PyProof.Rows L2
/-! The head: the top by a kernel run, the facts of defs, names, the class, the table. -/
def dd (x q : Str) (at_ : Str × Option Str) (st : Stmt) : He.DefD := ⟨at_, x, q, defArgs st, defBody st, defScope st, [], []⟩
def dg (x : Str) (st : Stmt) : He.DefD := dd x x (x, none) st
def fnA : List He.DefD := [dg "is_integer" s_is_integer, dg "is_within" s_is_within, dg "is_number" s_is_number, dg "is_triple" s_is_triple, dg "is_lot" s_is_lot, dg "is_first_behind" s_is_first_behind, dg "is_waits" s_is_waits,
  dg "first_wrong" s_first_wrong, dg "waited_for" s_waited_for, dg "first_in_ring" s_first_in_ring, dg "is_too_far" s_is_too_far, dd "__init__" "Standing.__init__" ("Standing", some "__init__") s_Standing_init, dg "raw_standing" s_raw_standing, dg "waits_of" s_waits_of]
def fnB : List He.DefD := [dg "is_deed" s_is_deed, dg "is_row_wish" s_is_row_wish, dg "is_open_wish" s_is_open_wish, dg "is_wait_wish" s_is_wait_wish, dg "is_wish" s_is_wish, dg "check_wish" s_check_wish, dg "renumbered" s_renumbered, dg "written_many" s_written_many,
  dg "behind_row" s_behind_row, dg "behind_open" s_behind_open, dg "behind_wait" s_behind_wait, dg "behind_of" s_behind_of, dg "behind" s_behind]
def fnC : List He.DefD := [dg "_law_hand" s_l_hand, dg "_law_draw" s_l_draw, dg "_law_closure" s_l_closure, dg "_law_claim" s_l_claim, dg "_law_load" s_l_load, dg "_law_loads" s_l_loads, dg "_law_waits" s_l_waits, dg "_law_deeds" s_l_deeds, dg "_law_parts" s_l_parts, dg "_law_used" s_l_used,
  dg "_law_numbered" s_l_numbered, dg "_law_aged" s_l_aged, dg "_law_behind" s_l_behind, dg "_law_wish" s_l_wish, dg "_law_deep" s_l_deep, dg "_law_odd" s_l_odd, dg "_law_is_whole" s_l_is_whole, dg "_law_is_lot" s_l_is_lot, dg "_law_is_due" s_l_is_due, dg "_law_bent" s_l_bent, dg "law" s_law]
def fn : List He.DefD := fnA ++ (fnB ++ fnC)
def namesA : List Str := ["is_integer", "is_within", "is_number", "is_triple", "is_lot", "is_first_behind", "is_waits", "first_wrong", "waited_for", "first_in_ring", "is_too_far", "raw_standing", "waits_of"]
def namesB : List Str := ["is_deed", "is_row_wish", "is_open_wish", "is_wait_wish", "is_wish", "check_wish", "renumbered", "written_many", "behind_row", "behind_open", "behind_wait", "behind_of", "behind"]
def namesC : List Str := ["_law_hand", "_law_draw", "_law_closure", "_law_claim", "_law_load", "_law_loads", "_law_waits", "_law_deeds", "_law_parts", "_law_used", "_law_numbered", "_law_aged", "_law_behind", "_law_wish", "_law_deep", "_law_odd", "_law_is_whole", "_law_is_lot", "_law_is_due", "_law_bent"]
def namesD : List Str := ["__name__", "RingError", "BadStanding", "NoWish", "MOST_CELLS", "MOST_HEAD", "MOST_DEEDS", "Standing", "ROW", "OPEN", "WAIT", "SIZES"]
def loose : List Str := namesA ++ (namesB ++ (namesC ++ namesD))
def bltA : List Str := ["isinstance", "int", "bool", "tuple", "str", "len", "enumerate", "list", "sorted", "range", "sum", "max", "min", "set", "zip", "all", "abs"]
def fa : List He.Fa := (namesA.map He.Fa.glo) ++ ((namesB.map He.Fa.glo) ++ ((namesC.map He.Fa.glo) ++ ((bltA.map He.Fa.free) ++
  [.glo "law", .glo "Standing", .glo "SIZES", .int "MOST_CELLS" (10 ^ 30), .int "MOST_HEAD" (10 ^ 40), .int "MOST_DEEDS" 200, .str "ROW" "row", .str "OPEN" "open", .str "WAIT" "wait",
   .cls "Standing", .noat "Standing" "cells", .noat "Standing" "head", .noat "Standing" "deeds", .mkr "Standing"])))
def tabs : List He.Tab := [(fun K => He.ga K "SIZES", ["row", "open", "wait"])]
def onB (a : Option Bool) (b : Bool) : Bool := decide (a = some b)
def ex (K : PySem.W.Frag) : Bool :=
  He.valsB K (He.ga K "SIZES") [("row", .int 4), ("open", .int 4), ("wait", .int 3)] &&
  (He.eqO (PySem.W.findIn K (.ref (He.ga K "Standing")) "__class__") (some (some (.builtin "object.__class__"))) &&
  (He.eqO (PySem.W.specialIn K (.builtin "object.__class__") "__get__") (some (some (.builtin "getset_descriptor.__get__"))) &&
  (onB (PySem.W.takesIn K (.builtin "object.__class__")) true &&
  (onB (PySem.W.mroIn K (He.ga K "Standing") (.type "object")) true &&
  (onB (PySem.W.kitOne K (.ref (He.ga K "Standing")) (.ref (He.ga K "Standing"))) true &&
  (onB (PySem.W.kitOne K (.ref (He.ga K "Standing")) (.type "int")) false &&
  (onB (PySem.W.kitOne K (.ref (He.ga K "Standing")) (.type "bool")) false &&
  (onB (PySem.W.kitOne K (.ref (He.ga K "Standing")) (.type "tuple")) false &&
  onB (PySem.W.kitOne K (.ref (He.ga K "Standing")) (.type "str")) false))))))))
abbrev R : PySem.W.OpenRow := PySem.W.OpenLaw.row PySem.Challenge.rw_ringclaims_k04_whole_wishes_and_what_is
abbrev hk : PySem.W.Hook := He.hookX 5 fa fn tabs [] ex
def ob (s : PySem.W.SharedT) : He.AlX := He.obsX 5 fa fn tabs [] ex (HandSHeadRun.getT s)
theorem ob_eq (s : PySem.W.SharedT) : ob s = hk.obs s.abs := He.obsX_eq (HandSHeadRun.getT_eq s)
/-- the top's run, once for each answer of the row that the class statements ask -/
theorem run (w : World) : HandSHeadRun.RunEq R (PySem.W.view R.prog [62]) hk ob 3000 loose w := by
  refine PySem.W.byRow2 (P := fun w => HandSHeadRun.RunEq R (PySem.W.view R.prog [62]) hk ob 3000 loose w) "special-get-raises" (fun w => ?_) (fun w => ?_) w
  · intro os
    kernel_rfl
  · intro os
    kernel_rfl
end Rc
set_option maxHeartbeats 4000000
/-! The end: the facts of the head give every def its promise; the law. Printed by gen_end.py. -/
namespace Rc
open PySem PySem.Spec PyProof.Rows L2
section
variable {P : Program} {w : World} {K : PySem.W.Frag} {mg : Str → Option Value} {base : Heap}
theorem isStr_no {e : DictEntry} {k z : Str} {i : Int} (h : He.keyOf e = some (k, i)) (ne : k ≠ z) : e.key.isStr z = false ∧ e.refKey = false := by
  unfold He.keyOf at h
  split at h
  · rename_i x t q
    have h2 := (Prod.mk.inj (Option.some.inj h)).1
    subst h2
    constructor
    · rw [q]
      show (x == z) = false
      simpa using ne
    · unfold DictEntry.refKey
      rw [q]
  · cases h
theorem find_no {P : Params} {z : Str} : ∀ {l : List DictEntry} {ks : List Str}, l.map He.keyOf = He.keysIn P ks → (∀ k ∈ ks, k ≠ z) → l.find? (fun e => e.key.isStr z) = none ∧ l.any (fun e => e.refKey) = false
  | [], _, _, _ => ⟨rfl, rfl⟩
  | e :: r, [], h, _ => by cases h
  | e :: r, k :: ks, h, hn => by
    have h1 : He.keyOf e :: r.map He.keyOf = some (k, PyData.keyHash P k) :: He.keysIn P ks := h
    injection h1 with h2 h3
    obtain ⟨a1, a2⟩ := isStr_no h2 (hn k (List.mem_cons_self ..))
    obtain ⟨b1, b2⟩ := find_no h3 fun k' hk => hn k' (List.mem_cons_of_mem _ hk)
    exact ⟨by rw [List.find?_cons, a1]; exact b1, by rw [List.any_cons, a2, b2]; rfl⟩
theorem dicW_shape {a : Addr} {l : List (Option (Str × Int))} (h : He.dicW K a = some l) : ∃ (oc : Value) (es : Array DictEntry) (n : Nat) (sl : Array (Option Value)), K.lookup a = some ⟨oc, none, .dict es n, sl⟩ ∧ es.toList.map He.keyOf = l := by
  unfold He.dicW at h
  cases q : K.lookup a with
  | none =>
    rw [q] at h
    cases h
  | some o =>
    obtain ⟨oc, od, dt, osl⟩ := o
    rw [q] at h
    cases oc with
    | type c =>
      cases od with
      | none =>
        cases dt with
        | dict es n =>
          have h1 : (match decide (c = "dict") && (osl.isEmpty && !(a == sysModules)) with
            | true => some (es.toList.map He.keyOf)
            | false => none) = some l := h
          cases z : decide (c = "dict") && (osl.isEmpty && !(a == sysModules)) with
          | false =>
            rw [z] at h1
            cases h1
          | true =>
            rw [z] at h1
            exact ⟨_, es, n, osl, rfl, Option.some.inj h1⟩
        | _ => cases h
      | some b => cases dt <;> cases h
    | _ => cases od <;> cases dt <;> cases h
theorem szv_of {D : Addr} (hd : He.dicW K D = some (He.keysIn w.params ["row", "open", "wait"])) (hv : He.valsB K D [("row", .int 4), ("open", .int 4), ("wait", .int 3)] = true) (z : Str) : ∃ r, PySem.W.nsIn K D z = some r ∧ RelO (sizeV z) r := by
  unfold sizeV
  by_cases h1 : z = ("row" : Str)
  · obtain ⟨u, e1, e2⟩ := He.valsB_ok hv (q := ("row", .int 4)) (by simp)
    rw [if_pos h1, h1]
    exact ⟨some u, e1, e2⟩
  rw [if_neg h1]
  by_cases h2 : z = ("open" : Str)
  · obtain ⟨u, e1, e2⟩ := He.valsB_ok hv (q := ("open", .int 4)) (by simp)
    rw [if_pos h2, h2]
    exact ⟨some u, e1, e2⟩
  rw [if_neg h2]
  by_cases h3 : z = ("wait" : Str)
  · obtain ⟨u, e1, e2⟩ := He.valsB_ok hv (q := ("wait", .int 3)) (by simp)
    rw [if_pos h3, h3]
    exact ⟨some u, e1, e2⟩
  rw [if_neg h3]
  obtain ⟨oc, es, n, sl, hl, hk⟩ := dicW_shape hd
  obtain ⟨f1, f2⟩ := find_no hk (z := z) fun k hk => by
    rcases List.mem_cons.mp hk with e | hk
    · rw [e]
      exact fun q => h1 q.symm
    rcases List.mem_cons.mp hk with e | hk
    · rw [e]
      exact fun q => h2 q.symm
    · rw [List.mem_singleton.mp hk]
      exact fun q => h3 q.symm
  refine ⟨none, ?_, trivial⟩
  unfold PySem.W.nsIn
  rw [hl]
  show (match es.toList.find? (fun e => e.key.isStr z) with
      | some e => some (some e.val)
      | none => if es.toList.any (fun e => e.refKey) then none else some none) = some none
  rw [f1, f2]
  rfl
theorem txt_of {h : Heap} (X : K.In h) (G : h.Ns mainGlobals mg) (c : He.SaysX fa fn tabs [] ex w h K) : Txt K w mg (He.ga K "Standing") (He.ga K "SIZES") := by
  obtain ⟨e0, m1⟩ := He.ba c.more
  obtain ⟨e1, m2⟩ := He.ba m1
  obtain ⟨e2, m3⟩ := He.ba m2
  obtain ⟨e3, m4⟩ := He.ba m3
  obtain ⟨e4, m5⟩ := He.ba m4
  obtain ⟨e5, m6⟩ := He.ba m5
  obtain ⟨e6, m7⟩ := He.ba m6
  obtain ⟨e7, m8⟩ := He.ba m7
  obtain ⟨e8, e9⟩ := He.ba m8
  have hW : He.dicW K (He.ga K "SIZES") = some (He.keysIn w.params ["row", "open", "wait"]) := by
    have e : tabs.map (fun t => He.dicW K (t.1 K)) = tabs.map fun t => some (He.keysIn w.params t.2) := congrArg (fun z : He.AlT => z.2) c.t
    exact List.head_eq_of_cons_eq e
  exact {
    b_isinstance := He.free_ok X G (c.t.d.fact 46 (f := .free "isinstance") rfl)
    b_int := He.free_ok X G (c.t.d.fact 47 (f := .free "int") rfl)
    b_bool := He.free_ok X G (c.t.d.fact 48 (f := .free "bool") rfl)
    b_tuple := He.free_ok X G (c.t.d.fact 49 (f := .free "tuple") rfl)
    b_str := He.free_ok X G (c.t.d.fact 50 (f := .free "str") rfl)
    b_len := He.free_ok X G (c.t.d.fact 51 (f := .free "len") rfl)
    b_enumerate := He.free_ok X G (c.t.d.fact 52 (f := .free "enumerate") rfl)
    b_list := He.free_ok X G (c.t.d.fact 53 (f := .free "list") rfl)
    b_sorted := He.free_ok X G (c.t.d.fact 54 (f := .free "sorted") rfl)
    b_range := He.free_ok X G (c.t.d.fact 55 (f := .free "range") rfl)
    b_sum := He.free_ok X G (c.t.d.fact 56 (f := .free "sum") rfl)
    b_max := He.free_ok X G (c.t.d.fact 57 (f := .free "max") rfl)
    b_min := He.free_ok X G (c.t.d.fact 58 (f := .free "min") rfl)
    b_set := He.free_ok X G (c.t.d.fact 59 (f := .free "set") rfl)
    b_zip := He.free_ok X G (c.t.d.fact 60 (f := .free "zip") rfl)
    b_all := He.free_ok X G (c.t.d.fact 61 (f := .free "all") rfl)
    b_abs := He.free_ok X G (c.t.d.fact 62 (f := .free "abs") rfl)
    cl := He.cls_ok (c.t.d.fact 72 (f := .cls "Standing") rfl)
    nC := He.noat_ok (c.t.d.fact 73 (f := .noat "Standing" "cells") rfl)
    nH := He.noat_ok (c.t.d.fact 74 (f := .noat "Standing" "head") rfl)
    nD := He.noat_ok (c.t.d.fact 75 (f := .noat "Standing" "deeds") rfl)
    ins := ⟨He.cls_ok (c.t.d.fact 72 (f := .cls "Standing") rfl), He.eqO_ok e1, He.eqO_ok e2, of_decide_eq_true e3, of_decide_eq_true e4, of_decide_eq_true e5⟩
    kI := of_decide_eq_true e6
    kB := of_decide_eq_true e7
    kT := of_decide_eq_true e8
    kS := of_decide_eq_true e9
    mgC := He.glo_ok X G (c.t.d.fact 64 (f := .glo "Standing") rfl)
    mc := let ⟨t, ht⟩ := He.int_ok X G (c.t.d.fact 66 (f := .int "MOST_CELLS" (10 ^ 30)) rfl); ⟨_, ht, t, rfl⟩
    mh := let ⟨t, ht⟩ := He.int_ok X G (c.t.d.fact 67 (f := .int "MOST_HEAD" (10 ^ 40)) rfl); ⟨_, ht, t, rfl⟩
    md := let ⟨t, ht⟩ := He.int_ok X G (c.t.d.fact 68 (f := .int "MOST_DEEDS" 200) rfl); ⟨_, ht, t, rfl⟩
    row := let ⟨t, ht⟩ := He.str_ok X G (c.t.d.fact 69 (f := .str "ROW" "row") rfl); ⟨_, ht, t, rfl⟩
    opn := let ⟨t, ht⟩ := He.str_ok X G (c.t.d.fact 70 (f := .str "OPEN" "open") rfl); ⟨_, ht, t, rfl⟩
    wai := let ⟨t, ht⟩ := He.str_ok X G (c.t.d.fact 71 (f := .str "WAIT" "wait") rfl); ⟨_, ht, t, rfl⟩
    szs := ⟨_, He.glo_ok X G (c.t.d.fact 65 (f := .glo "SIZES") rfl), rfl⟩
    kd := c.t.tab 0 rfl
    szv := szv_of hW e0 }
theorem law_ok {h : Heap} {fd : FuncData} (X : K.In h) (G : h.Ns mainGlobals mg) (c : He.SaysX fa fn tabs [] ex w h K) (F : FnP K "law" "law" s_law (He.ga K "law") fd) : FnOk P w K mg base CX0 12 (He.ga K "law") fd ["_law_script"] (spLaw K) := by
  have T := txt_of X G c
  have dM : DfM K (He.ga K "Standing") s_Standing_init := by
    obtain ⟨fd, F⟩ := c.t.d.def_ 11 (d := dd "__init__" "Standing.__init__" ("Standing", some "__init__") s_Standing_init) rfl
    exact ⟨_, fd, F, He.mkr_ok (c.t.d.fact 76 (f := .mkr "Standing") rfl)⟩
  have d_is_integer : Df K mg "is_integer" s_is_integer (He.ga K "is_integer") := ⟨c.t.d.def_ 0 (d := dg "is_integer" s_is_integer) rfl, He.glo_ok X G (c.t.d.fact 0 (f := .glo "is_integer") rfl)⟩
  have k_is_integer := c_is_integer (P := P) (base := base) T d_is_integer
  have q_is_integer : Cal P w K mg base 1 "is_integer" (spInteger (He.ga K "Standing")) := ⟨_, k_is_integer⟩
  have d_is_within : Df K mg "is_within" s_is_within (He.ga K "is_within") := ⟨c.t.d.def_ 1 (d := dg "is_within" s_is_within) rfl, He.glo_ok X G (c.t.d.fact 1 (f := .glo "is_within") rfl)⟩
  have k_is_within := c_is_within (P := P) (base := base) T d_is_within q_is_integer
  have q_is_within : Cal P w K mg base 2 "is_within" (spWithin (He.ga K "Standing")) := ⟨_, k_is_within⟩
  have d_is_number : Df K mg "is_number" s_is_number (He.ga K "is_number") := ⟨c.t.d.def_ 2 (d := dg "is_number" s_is_number) rfl, He.glo_ok X G (c.t.d.fact 2 (f := .glo "is_number") rfl)⟩
  have k_is_number := c_is_number (P := P) (base := base) T d_is_number q_is_within
  have q_is_number : Cal P w K mg base 3 "is_number" (spNumber (He.ga K "Standing")) := ⟨_, k_is_number⟩
  have d_is_triple : Df K mg "is_triple" s_is_triple (He.ga K "is_triple") := ⟨c.t.d.def_ 3 (d := dg "is_triple" s_is_triple) rfl, He.glo_ok X G (c.t.d.fact 3 (f := .glo "is_triple") rfl)⟩
  have k_is_triple := c_is_triple (P := P) (base := base) T d_is_triple
  have q_is_triple : Cal P w K mg base 1 "is_triple" (spTriple) := ⟨_, k_is_triple⟩
  have d_is_lot : Df K mg "is_lot" s_is_lot (He.ga K "is_lot") := ⟨c.t.d.def_ 4 (d := dg "is_lot" s_is_lot) rfl, He.glo_ok X G (c.t.d.fact 4 (f := .glo "is_lot") rfl)⟩
  have k_is_lot := c_is_lot (P := P) (base := base) T d_is_lot q_is_within
  have q_is_lot : Cal P w K mg base 3 "is_lot" (spLot (He.ga K "Standing")) := ⟨_, k_is_lot⟩
  have d_is_first_behind : Df K mg "is_first_behind" s_is_first_behind (He.ga K "is_first_behind") := ⟨c.t.d.def_ 5 (d := dg "is_first_behind" s_is_first_behind) rfl, He.glo_ok X G (c.t.d.fact 5 (f := .glo "is_first_behind") rfl)⟩
  have k_is_first_behind := c_is_first_behind (P := P) (base := base) T d_is_first_behind q_is_within
  have q_is_first_behind : Cal P w K mg base 3 "is_first_behind" (spFirstBehind) := ⟨_, k_is_first_behind⟩
  have d_is_waits : Df K mg "is_waits" s_is_waits (He.ga K "is_waits") := ⟨c.t.d.def_ 6 (d := dg "is_waits" s_is_waits) rfl, He.glo_ok X G (c.t.d.fact 6 (f := .glo "is_waits") rfl)⟩
  have k_is_waits := c_is_waits (P := P) (base := base) T d_is_waits q_is_lot
  have q_is_waits : Cal P w K mg base 4 "is_waits" (spIsWaits) := ⟨_, k_is_waits⟩
  have d_first_wrong : Df K mg "first_wrong" s_first_wrong (He.ga K "first_wrong") := ⟨c.t.d.def_ 7 (d := dg "first_wrong" s_first_wrong) rfl, He.glo_ok X G (c.t.d.fact 7 (f := .glo "first_wrong") rfl)⟩
  have k_first_wrong := c_first_wrong (P := P) (base := base) T d_first_wrong q_is_triple q_is_first_behind q_is_number q_is_waits
  have q_first_wrong : Cal P w K mg base 5 "first_wrong" (spFirstWrong) := ⟨_, k_first_wrong⟩
  have d_waited_for : Df K mg "waited_for" s_waited_for (He.ga K "waited_for") := ⟨c.t.d.def_ 8 (d := dg "waited_for" s_waited_for) rfl, He.glo_ok X G (c.t.d.fact 8 (f := .glo "waited_for") rfl)⟩
  have k_waited_for := c_waited_for (P := P) (base := base) T d_waited_for
  have q_waited_for : Cal P w K mg base 1 "waited_for" (spWaited) := ⟨_, k_waited_for⟩
  have d_first_in_ring : Df K mg "first_in_ring" s_first_in_ring (He.ga K "first_in_ring") := ⟨c.t.d.def_ 9 (d := dg "first_in_ring" s_first_in_ring) rfl, He.glo_ok X G (c.t.d.fact 9 (f := .glo "first_in_ring") rfl)⟩
  have k_first_in_ring := c_first_in_ring (P := P) (base := base) T d_first_in_ring q_waited_for
  have q_first_in_ring : Cal P w K mg base 2 "first_in_ring" (spFirstRing) := ⟨_, k_first_in_ring⟩
  have d_is_too_far : Df K mg "is_too_far" s_is_too_far (He.ga K "is_too_far") := ⟨c.t.d.def_ 10 (d := dg "is_too_far" s_is_too_far) rfl, He.glo_ok X G (c.t.d.fact 10 (f := .glo "is_too_far") rfl)⟩
  have k_is_too_far := c_is_too_far (P := P) (base := base) T d_is_too_far
  have q_is_too_far : Cal P w K mg base 1 "is_too_far" (spTooFar) := ⟨_, k_is_too_far⟩
  have M := c_Standing_init (P := P) (base := base) T dM q_is_within q_is_number q_first_wrong q_is_too_far q_first_in_ring
  have d_raw_standing : Df K mg "raw_standing" s_raw_standing (He.ga K "raw_standing") := ⟨c.t.d.def_ 12 (d := dg "raw_standing" s_raw_standing) rfl, He.glo_ok X G (c.t.d.fact 11 (f := .glo "raw_standing") rfl)⟩
  have k_raw_standing := c_raw_standing (P := P) (base := base) T d_raw_standing M
  have q_raw_standing : Cal P w K mg base 8 "raw_standing" (spRaw (He.ga K "Standing")) := ⟨_, k_raw_standing⟩
  have d_waits_of : Df K mg "waits_of" s_waits_of (He.ga K "waits_of") := ⟨c.t.d.def_ 13 (d := dg "waits_of" s_waits_of) rfl, He.glo_ok X G (c.t.d.fact 12 (f := .glo "waits_of") rfl)⟩
  have k_waits_of := c_waits_of (P := P) (base := base) T d_waits_of
  have q_waits_of : Cal P w K mg base 1 "waits_of" (spWaitsOf (He.ga K "Standing")) := ⟨_, k_waits_of⟩
  have d_is_deed : Df K mg "is_deed" s_is_deed (He.ga K "is_deed") := ⟨c.t.d.def_ 14 (d := dg "is_deed" s_is_deed) rfl, He.glo_ok X G (c.t.d.fact 13 (f := .glo "is_deed") rfl)⟩
  have k_is_deed := c_is_deed (P := P) (base := base) T d_is_deed q_is_within
  have q_is_deed : Cal P w K mg base 3 "is_deed" (spDeed (He.ga K "Standing")) := ⟨_, k_is_deed⟩
  have d_is_row_wish : Df K mg "is_row_wish" s_is_row_wish (He.ga K "is_row_wish") := ⟨c.t.d.def_ 15 (d := dg "is_row_wish" s_is_row_wish) rfl, He.glo_ok X G (c.t.d.fact 14 (f := .glo "is_row_wish") rfl)⟩
  have k_is_row_wish := c_is_row_wish (P := P) (base := base) T d_is_row_wish q_is_deed q_is_within q_is_number
  have q_is_row_wish : Cal P w K mg base 4 "is_row_wish" (spRowW (He.ga K "Standing")) := ⟨_, k_is_row_wish⟩
  have d_is_open_wish : Df K mg "is_open_wish" s_is_open_wish (He.ga K "is_open_wish") := ⟨c.t.d.def_ 16 (d := dg "is_open_wish" s_is_open_wish) rfl, He.glo_ok X G (c.t.d.fact 15 (f := .glo "is_open_wish") rfl)⟩
  have k_is_open_wish := c_is_open_wish (P := P) (base := base) T d_is_open_wish q_is_number q_is_lot
  have q_is_open_wish : Cal P w K mg base 4 "is_open_wish" (spOpenW (He.ga K "Standing")) := ⟨_, k_is_open_wish⟩
  have d_is_wait_wish : Df K mg "is_wait_wish" s_is_wait_wish (He.ga K "is_wait_wish") := ⟨c.t.d.def_ 17 (d := dg "is_wait_wish" s_is_wait_wish) rfl, He.glo_ok X G (c.t.d.fact 16 (f := .glo "is_wait_wish") rfl)⟩
  have k_is_wait_wish := c_is_wait_wish (P := P) (base := base) T d_is_wait_wish q_is_deed q_waits_of q_waited_for
  have q_is_wait_wish : Cal P w K mg base 4 "is_wait_wish" (spWaitW (He.ga K "Standing")) := ⟨_, k_is_wait_wish⟩
  have d_is_wish : Df K mg "is_wish" s_is_wish (He.ga K "is_wish") := ⟨c.t.d.def_ 18 (d := dg "is_wish" s_is_wish) rfl, He.glo_ok X G (c.t.d.fact 17 (f := .glo "is_wish") rfl)⟩
  have k_is_wish := c_is_wish (P := P) (base := base) T d_is_wish k_is_row_wish k_is_open_wish k_is_wait_wish
  have q_is_wish : Cal P w K mg base 5 "is_wish" (spIsWish (He.ga K "Standing")) := ⟨_, k_is_wish⟩
  have d_check_wish : Df K mg "check_wish" s_check_wish (He.ga K "check_wish") := ⟨c.t.d.def_ 19 (d := dg "check_wish" s_check_wish) rfl, He.glo_ok X G (c.t.d.fact 18 (f := .glo "check_wish") rfl)⟩
  have k_check_wish := c_check_wish (P := P) (base := base) T d_check_wish q_is_wish
  have q_check_wish : Cal P w K mg base 6 "check_wish" (spCheckWish (He.ga K "Standing")) := ⟨_, k_check_wish⟩
  have d_renumbered : Df K mg "renumbered" s_renumbered (He.ga K "renumbered") := ⟨c.t.d.def_ 20 (d := dg "renumbered" s_renumbered) rfl, He.glo_ok X G (c.t.d.fact 19 (f := .glo "renumbered") rfl)⟩
  have k_renumbered := c_renumbered (P := P) (base := base) T d_renumbered
  have q_renumbered : Cal P w K mg base 1 "renumbered" (spRenum) := ⟨_, k_renumbered⟩
  have d_written_many : Df K mg "written_many" s_written_many (He.ga K "written_many") := ⟨c.t.d.def_ 21 (d := dg "written_many" s_written_many) rfl, He.glo_ok X G (c.t.d.fact 20 (f := .glo "written_many") rfl)⟩
  have k_written_many := c_written_many (P := P) (base := base) T d_written_many
  have q_written_many : Cal P w K mg base 1 "written_many" (spWritten) := ⟨_, k_written_many⟩
  have d_behind_row : Df K mg "behind_row" s_behind_row (He.ga K "behind_row") := ⟨c.t.d.def_ 22 (d := dg "behind_row" s_behind_row) rfl, He.glo_ok X G (c.t.d.fact 21 (f := .glo "behind_row") rfl)⟩
  have k_behind_row := c_behind_row (P := P) (base := base) T d_behind_row q_raw_standing q_written_many q_renumbered
  have q_behind_row : Cal P w K mg base 9 "behind_row" (spBRow (He.ga K "Standing")) := ⟨_, k_behind_row⟩
  have d_behind_open : Df K mg "behind_open" s_behind_open (He.ga K "behind_open") := ⟨c.t.d.def_ 23 (d := dg "behind_open" s_behind_open) rfl, He.glo_ok X G (c.t.d.fact 22 (f := .glo "behind_open") rfl)⟩
  have k_behind_open := c_behind_open (P := P) (base := base) T d_behind_open q_raw_standing q_written_many q_renumbered
  have q_behind_open : Cal P w K mg base 9 "behind_open" (spBOpen (He.ga K "Standing")) := ⟨_, k_behind_open⟩
  have d_behind_wait : Df K mg "behind_wait" s_behind_wait (He.ga K "behind_wait") := ⟨c.t.d.def_ 24 (d := dg "behind_wait" s_behind_wait) rfl, He.glo_ok X G (c.t.d.fact 23 (f := .glo "behind_wait") rfl)⟩
  have k_behind_wait := c_behind_wait (P := P) (base := base) T d_behind_wait q_raw_standing
  have q_behind_wait : Cal P w K mg base 9 "behind_wait" (spBWait (He.ga K "Standing")) := ⟨_, k_behind_wait⟩
  have d_behind_of : Df K mg "behind_of" s_behind_of (He.ga K "behind_of") := ⟨c.t.d.def_ 25 (d := dg "behind_of" s_behind_of) rfl, He.glo_ok X G (c.t.d.fact 24 (f := .glo "behind_of") rfl)⟩
  have k_behind_of := c_behind_of (P := P) (base := base) T d_behind_of q_behind_row q_behind_open q_behind_wait
  have q_behind_of : Cal P w K mg base 10 "behind_of" (spBOf (He.ga K "Standing")) := ⟨_, k_behind_of⟩
  have d_behind : Df K mg "behind" s_behind (He.ga K "behind") := ⟨c.t.d.def_ 26 (d := dg "behind" s_behind) rfl, He.glo_ok X G (c.t.d.fact 25 (f := .glo "behind") rfl)⟩
  have k_behind := c_behind (P := P) (base := base) T d_behind q_check_wish q_behind_of
  have q_behind : Cal P w K mg base 11 "behind" (spBehind (He.ga K "Standing")) := ⟨_, k_behind⟩
  have d_l_hand : Df K mg "_law_hand" s_l_hand (He.ga K "_law_hand") := ⟨c.t.d.def_ 27 (d := dg "_law_hand" s_l_hand) rfl, He.glo_ok X G (c.t.d.fact 26 (f := .glo "_law_hand") rfl)⟩
  have k_l_hand := c_l_hand (P := P) (base := base) T d_l_hand
  have q_l_hand : Cal P w K mg base 1 "_law_hand" (spHand K) := ⟨_, k_l_hand⟩
  have d_l_draw : Df K mg "_law_draw" s_l_draw (He.ga K "_law_draw") := ⟨c.t.d.def_ 28 (d := dg "_law_draw" s_l_draw) rfl, He.glo_ok X G (c.t.d.fact 27 (f := .glo "_law_draw") rfl)⟩
  have k_l_draw := c_l_draw (P := P) (base := base) T d_l_draw
  have q_l_draw : Cal P w K mg base 1 "_law_draw" (spDraw) := ⟨_, k_l_draw⟩
  have d_l_closure : Df K mg "_law_closure" s_l_closure (He.ga K "_law_closure") := ⟨c.t.d.def_ 29 (d := dg "_law_closure" s_l_closure) rfl, He.glo_ok X G (c.t.d.fact 28 (f := .glo "_law_closure") rfl)⟩
  have k_l_closure := c_l_closure (P := P) (base := base) T d_l_closure
  have q_l_closure : Cal P w K mg base 1 "_law_closure" (spClosure) := ⟨_, k_l_closure⟩
  have d_l_claim : Df K mg "_law_claim" s_l_claim (He.ga K "_law_claim") := ⟨c.t.d.def_ 30 (d := dg "_law_claim" s_l_claim) rfl, He.glo_ok X G (c.t.d.fact 29 (f := .glo "_law_claim") rfl)⟩
  have k_l_claim := c_l_claim (P := P) (base := base) T d_l_claim q_l_closure
  have q_l_claim : Cal P w K mg base 2 "_law_claim" (spClaim) := ⟨_, k_l_claim⟩
  have d_l_load : Df K mg "_law_load" s_l_load (He.ga K "_law_load") := ⟨c.t.d.def_ 31 (d := dg "_law_load" s_l_load) rfl, He.glo_ok X G (c.t.d.fact 30 (f := .glo "_law_load") rfl)⟩
  have k_l_load := c_l_load (P := P) (base := base) T d_l_load q_l_claim
  have q_l_load : Cal P w K mg base 3 "_law_load" (spLoad) := ⟨_, k_l_load⟩
  have d_l_loads : Df K mg "_law_loads" s_l_loads (He.ga K "_law_loads") := ⟨c.t.d.def_ 32 (d := dg "_law_loads" s_l_loads) rfl, He.glo_ok X G (c.t.d.fact 31 (f := .glo "_law_loads") rfl)⟩
  have k_l_loads := c_l_loads (P := P) (base := base) T d_l_loads q_l_load
  have q_l_loads : Cal P w K mg base 4 "_law_loads" (spLoads) := ⟨_, k_l_loads⟩
  have d_l_used : Df K mg "_law_used" s_l_used (He.ga K "_law_used") := ⟨c.t.d.def_ 36 (d := dg "_law_used" s_l_used) rfl, He.glo_ok X G (c.t.d.fact 35 (f := .glo "_law_used") rfl)⟩
  have k_l_used := c_l_used (P := P) (base := base) T d_l_used
  have q_l_used : Cal P w K mg base 1 "_law_used" (spUsed) := ⟨_, k_l_used⟩
  have d_l_waits : Df K mg "_law_waits" s_l_waits (He.ga K "_law_waits") := ⟨c.t.d.def_ 33 (d := dg "_law_waits" s_l_waits) rfl, He.glo_ok X G (c.t.d.fact 32 (f := .glo "_law_waits") rfl)⟩
  have k_l_waits := c_l_waits (P := P) (base := base) T d_l_waits q_l_draw
  have q_l_waits : Cal P w K mg base 2 "_law_waits" (spWaits) := ⟨_, k_l_waits⟩
  have d_l_deeds : Df K mg "_law_deeds" s_l_deeds (He.ga K "_law_deeds") := ⟨c.t.d.def_ 34 (d := dg "_law_deeds" s_l_deeds) rfl, He.glo_ok X G (c.t.d.fact 33 (f := .glo "_law_deeds") rfl)⟩
  have k_l_deeds := c_l_deeds (P := P) (base := base) T d_l_deeds q_l_draw q_l_waits
  have q_l_deeds : Cal P w K mg base 3 "_law_deeds" (spDeeds) := ⟨_, k_l_deeds⟩
  have d_l_parts : Df K mg "_law_parts" s_l_parts (He.ga K "_law_parts") := ⟨c.t.d.def_ 35 (d := dg "_law_parts" s_l_parts) rfl, He.glo_ok X G (c.t.d.fact 34 (f := .glo "_law_parts") rfl)⟩
  have k_l_parts := c_l_parts (P := P) (base := base) T d_l_parts q_l_draw q_l_deeds q_l_used q_l_loads
  have q_l_parts : Cal P w K mg base 5 "_law_parts" (spParts) := ⟨_, k_l_parts⟩
  have d_l_numbered : Df K mg "_law_numbered" s_l_numbered (He.ga K "_law_numbered") := ⟨c.t.d.def_ 37 (d := dg "_law_numbered" s_l_numbered) rfl, He.glo_ok X G (c.t.d.fact 36 (f := .glo "_law_numbered") rfl)⟩
  have k_l_numbered := c_l_numbered (P := P) (base := base) T d_l_numbered
  have q_l_numbered : Cal P w K mg base 1 "_law_numbered" (spRenum) := ⟨_, k_l_numbered⟩
  have d_l_aged : Df K mg "_law_aged" s_l_aged (He.ga K "_law_aged") := ⟨c.t.d.def_ 38 (d := dg "_law_aged" s_l_aged) rfl, He.glo_ok X G (c.t.d.fact 37 (f := .glo "_law_aged") rfl)⟩
  have k_l_aged := c_l_aged (P := P) (base := base) T d_l_aged
  have q_l_aged : Cal P w K mg base 1 "_law_aged" (spAged) := ⟨_, k_l_aged⟩
  have d_l_behind : Df K mg "_law_behind" s_l_behind (He.ga K "_law_behind") := ⟨c.t.d.def_ 39 (d := dg "_law_behind" s_l_behind) rfl, He.glo_ok X G (c.t.d.fact 38 (f := .glo "_law_behind") rfl)⟩
  have k_l_behind := c_l_behind (P := P) (base := base) T d_l_behind q_l_numbered q_l_aged
  have q_l_behind : Cal P w K mg base 2 "_law_behind" (spLBehind) := ⟨_, k_l_behind⟩
  have d_l_wish : Df K mg "_law_wish" s_l_wish (He.ga K "_law_wish") := ⟨c.t.d.def_ 40 (d := dg "_law_wish" s_l_wish) rfl, He.glo_ok X G (c.t.d.fact 39 (f := .glo "_law_wish") rfl)⟩
  have k_l_wish := c_l_wish (P := P) (base := base) T d_l_wish q_l_draw q_l_closure
  have q_l_wish : Cal P w K mg base 2 "_law_wish" (spWish (He.ga K "Standing")) := ⟨_, k_l_wish⟩
  have d_l_deep : Df K mg "_law_deep" s_l_deep (He.ga K "_law_deep") := ⟨c.t.d.def_ 41 (d := dg "_law_deep" s_l_deep) rfl, He.glo_ok X G (c.t.d.fact 40 (f := .glo "_law_deep") rfl)⟩
  have k_l_deep := c_l_deep (P := P) (base := base) T d_l_deep
  have q_l_deep : Cal P w K mg base 1 "_law_deep" (spDeep (He.ga K "Standing")) := ⟨_, k_l_deep⟩
  have d_l_odd : Df K mg "_law_odd" s_l_odd (He.ga K "_law_odd") := ⟨c.t.d.def_ 42 (d := dg "_law_odd" s_l_odd) rfl, He.glo_ok X G (c.t.d.fact 41 (f := .glo "_law_odd") rfl)⟩
  have k_l_odd := c_l_odd (P := P) (base := base) T d_l_odd q_l_draw q_l_deep
  have q_l_odd : Cal P w K mg base 2 "_law_odd" (spOdd (He.ga K "Standing")) := ⟨_, k_l_odd⟩
  have d_l_is_whole : Df K mg "_law_is_whole" s_l_is_whole (He.ga K "_law_is_whole") := ⟨c.t.d.def_ 43 (d := dg "_law_is_whole" s_l_is_whole) rfl, He.glo_ok X G (c.t.d.fact 42 (f := .glo "_law_is_whole") rfl)⟩
  have k_l_is_whole := c_l_is_whole (P := P) (base := base) T d_l_is_whole
  have q_l_is_whole : Cal P w K mg base 1 "_law_is_whole" (spWithin (He.ga K "Standing")) := ⟨_, k_l_is_whole⟩
  have d_l_is_lot : Df K mg "_law_is_lot" s_l_is_lot (He.ga K "_law_is_lot") := ⟨c.t.d.def_ 44 (d := dg "_law_is_lot" s_l_is_lot) rfl, He.glo_ok X G (c.t.d.fact 43 (f := .glo "_law_is_lot") rfl)⟩
  have k_l_is_lot := c_l_is_lot (P := P) (base := base) T d_l_is_lot q_l_is_whole
  have q_l_is_lot : Cal P w K mg base 2 "_law_is_lot" (spLLot (He.ga K "Standing")) := ⟨_, k_l_is_lot⟩
  have d_l_is_due : Df K mg "_law_is_due" s_l_is_due (He.ga K "_law_is_due") := ⟨c.t.d.def_ 45 (d := dg "_law_is_due" s_l_is_due) rfl, He.glo_ok X G (c.t.d.fact 44 (f := .glo "_law_is_due") rfl)⟩
  have k_l_is_due := c_l_is_due (P := P) (base := base) T d_l_is_due q_l_is_whole q_l_is_lot q_l_closure
  have q_l_is_due : Cal P w K mg base 3 "_law_is_due" (spIsDue (He.ga K "Standing")) := ⟨_, k_l_is_due⟩
  have d_l_bent : Df K mg "_law_bent" s_l_bent (He.ga K "_law_bent") := ⟨c.t.d.def_ 46 (d := dg "_law_bent" s_l_bent) rfl, He.glo_ok X G (c.t.d.fact 45 (f := .glo "_law_bent") rfl)⟩
  have k_l_bent := c_l_bent (P := P) (base := base) T d_l_bent q_l_draw q_l_odd
  have q_l_bent : Cal P w K mg base 3 "_law_bent" (spBent (He.ga K "Standing")) := ⟨_, k_l_bent⟩
  exact c_law T F q_l_hand q_l_draw q_l_parts q_l_wish q_l_bent q_l_is_due q_is_wish q_behind q_l_behind M
theorem facts {h : Heap} {f : Addr} (X : K.In h) (G : h.Ns mainGlobals mg) (hfa : mg ("law" : Str) = some (.ref f)) (c : He.SaysX fa fn tabs [] ex w h K) :
    ∃ fd : FuncData, (∀ (s : Shared) (v : Value), BindsTo s fd ⟨[v], []⟩ [("_law_script", v)]) ∧ ∀ base : Heap, K.In base → base.Ns mainGlobals mg → FnOk P w K mg base CX0 12 f fd ["_law_script"] (spLaw K) := by
  obtain ⟨fd, F⟩ := c.t.d.def_ 47 (d := dg "law" s_law) rfl
  have e := hfa.symm.trans (He.glo_ok X G (c.t.d.fact 63 (f := .glo "law") rfl))
  cases e
  have b := FunD.bindsA (ps := ["_law_script"]) F fun _ _ _ _ _ _ us hl => match us, hl with | [_], _ => rfl
  exact ⟨fd, fun s v => b s [v] rfl, fun base _ _ => law_ok X G c F⟩
end
end Rc
open PySem PySem.W PySem.Calls PyProof.Rows
theorem PySem.Challenge.cw_ringclaims_k04_whole_wishes_and_what_is_holds : PySem.Challenge.rw_ringclaims_k04_whole_wishes_and_what_is.Holds := by
  w_on; o_law
  refine HandSHeadRun.head_any (r := OpenLaw.row PySem.Challenge.rw_ringclaims_k04_whole_wishes_and_what_is) (q := view (OpenLaw.row PySem.Challenge.rw_ringclaims_k04_whole_wishes_and_what_is).prog [62]) (H := Rc.hk) (ob := Rc.ob) (M := 3000) (loose := Rc.loose) (d := HandSHeadRun.topDef (OpenLaw.row PySem.Challenge.rw_ringclaims_k04_whole_wishes_and_what_is).prog 62) (kwd := []) Rc.ob_eq
    (by kernel_rfl) (fun s => by kernel_rfl) Rc.run (by kernel_rfl) (by kernel_rfl) (by kernel_rfl) (by rfl) (by first | assumption | decide +kernel) (by decide +kernel) ⟨rfl, rfl, rfl, rfl, rfl, by decide +kernel⟩ ?hw ?hc
  case hw => w_witness2
  case hc =>
    refine L2.walk_ofE (l := PySem.Challenge.rw_ringclaims_k04_whole_wishes_and_what_is) (n := 63) (k := 12) (x := "_law_script") (CX := L2.CX0) rfl (by decide) (by kernel_rfl) ⟨rfl, by decide, by decide⟩ ?F (fun _ _ _ _ z => z)
    intro w mg fa h Y G hmg0
    obtain ⟨K, KX, c⟩ := Y
    have hmg : mg ("law" : PySem.Str) = some (.ref fa) := by
      have e : (HandSHeadRun.topDef (OpenLaw.row PySem.Challenge.rw_ringclaims_k04_whole_wishes_and_what_is).prog 62).name = ("law" : PySem.Str) := by kernel_rfl
      rw [← e]
      exact hmg0
    obtain ⟨fd, hb, hF⟩ := Rc.facts (P := (PySem.Challenge.rw_ringclaims_k04_whole_wishes_and_what_is).prog) (w := w) KX G hmg c
    exact ⟨K, fd, Rc.spLaw K, KX, hb, fun H a ns hl _ hS => ⟨a, ns, rfl, hS, hl, fun _ => rfl⟩, hF⟩
