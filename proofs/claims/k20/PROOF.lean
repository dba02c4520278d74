import PyProof.Rows.All
import Wide.All
import OpenK.AllK
import Wide.FinOn
import HandS.ForMost
import HandS.HeadHook4
import HandS.HeadWalk
import HandS.Head2
import HandS.Evl
import HandS.Walk
import HandS.IsInst
import HandS.Nested
import HandS.Defaults
import HandS.TupAny
import HandS.TupMul
import HandS.SetFor
import HandS.Strs
import HandS.Style
import HandS.TupLe
import HandS.Deep
import KE.GoesEnum
import KE.DataFind
import KE.DataMinMax
import PyProof.SumWalkG
import OpenK.KCls
import HandS.Conv
import PyProof.DictUpdate
import HandS.DictComp
import PySem.Challenge.RW_staletags_k20_whole_unseeing_keepers_and
set_option Elab.async false
section
set_option linter.all false
set_option maxRecDepth 100000
set_option maxHeartbeats 4000000
namespace K20
open PySem PySem.Spec PyProof.Rows L2
def topS (i : Nat) : Stmt := PySem.Challenge.pw_staletags_k20_whole_unseeing_keepers_and.main.body.getD i (.Pass ⟨0, 0, 0, 0⟩)
abbrev s_is_integer : Stmt := topS 9
abbrev s_is_within : Stmt := topS 10
abbrev s_is_number : Stmt := topS 11
abbrev s_is_tuple_of : Stmt := topS 12
abbrev s_check_number : Stmt := topS 13
abbrev s_check_tags : Stmt := topS 14
abbrev s_is_tie : Stmt := topS 18
abbrev s_Web_init : Stmt := inClass (topS 19) 0
abbrev s_is_room : Stmt := topS 20
abbrev s_tied_rooms : Stmt := topS 21
abbrev s_blindly : Stmt := topS 25
abbrev s_check_few_needs : Stmt := topS 26
abbrev s_order_of : Stmt := topS 27
abbrev s_choices : Stmt := topS 28
abbrev s_lots_for : Stmt := topS 29
abbrev s_tied_all : Stmt := topS 30
abbrev s_is_too_few : Stmt := topS 31
abbrev s_raw_dyeing : Stmt := topS 32
abbrev s_dyeing : Stmt := topS 33
abbrev s_in_turn : Stmt := topS 34
abbrev s_row_for : Stmt := topS 35
abbrev s_tags_of : Stmt := topS 36
abbrev s_blind_row : Stmt := topS 37
abbrev s_begun : Stmt := topS 39
abbrev s_kept_tags : Stmt := topS 40
abbrev s_raw_after : Stmt := topS 41
abbrev s_raw_barred : Stmt := topS 42
abbrev s_is_ask : Stmt := topS 44
abbrev s_first_none : Stmt := topS 45
abbrev s_is_row : Stmt := topS 46
abbrev s_word_of : Stmt := topS 47
abbrev s_Leading_init : Stmt := inClass (topS 48) 0
abbrev s_Leading_done : Stmt := inClass (topS 48) 1
abbrev s_Leading_answer : Stmt := inClass (topS 48) 2
abbrev s_led : Stmt := topS 49
abbrev s_law_hand : Stmt := topS 51
abbrev s_law_draw : Stmt := topS 52
abbrev s_law_spec : Stmt := topS 53
abbrev s_law_tied : Stmt := topS 54
abbrev s_law_is_whole : Stmt := topS 55
abbrev s_law_next : Stmt := topS 56
abbrev s_law_unseeing : Stmt := topS 57
abbrev s_law_all_tags : Stmt := topS 58
abbrev s_law_falls : Stmt := topS 59
abbrev s_law_led : Stmt := topS 60
abbrev s_law_row : Stmt := topS 61
abbrev s_law_turns : Stmt := topS 62
abbrev s_law_late : Stmt := topS 63
abbrev s_law_blind_right : Stmt := topS 64
abbrev s_law : Stmt := topS 65
def d_is_integer : He.DefD := ⟨("is_integer", none), "is_integer", "is_integer", defArgs s_is_integer, defBody s_is_integer, defScope s_is_integer, [], []⟩
def d_is_within : He.DefD := ⟨("is_within", none), "is_within", "is_within", defArgs s_is_within, defBody s_is_within, defScope s_is_within, [], []⟩
def d_is_number : He.DefD := ⟨("is_number", none), "is_number", "is_number", defArgs s_is_number, defBody s_is_number, defScope s_is_number, [], []⟩
def d_is_tuple_of : He.DefD := ⟨("is_tuple_of", none), "is_tuple_of", "is_tuple_of", defArgs s_is_tuple_of, defBody s_is_tuple_of, defScope s_is_tuple_of, [], []⟩
def d_check_number : He.DefD := ⟨("check_number", none), "check_number", "check_number", defArgs s_check_number, defBody s_check_number, defScope s_check_number, [], []⟩
def d_check_tags : He.DefD := ⟨("check_tags", none), "check_tags", "check_tags", defArgs s_check_tags, defBody s_check_tags, defScope s_check_tags, [], []⟩
def d_is_tie : He.DefD := ⟨("is_tie", none), "is_tie", "is_tie", defArgs s_is_tie, defBody s_is_tie, defScope s_is_tie, [], []⟩
def d_Web_init : He.DefD := ⟨("Web", some "__init__"), "__init__", "Web.__init__", defArgs s_Web_init, defBody s_Web_init, defScope s_Web_init, [], []⟩
def d_is_room : He.DefD := ⟨("is_room", none), "is_room", "is_room", defArgs s_is_room, defBody s_is_room, defScope s_is_room, [], []⟩
def d_tied_rooms : He.DefD := ⟨("tied_rooms", none), "tied_rooms", "tied_rooms", defArgs s_tied_rooms, defBody s_tied_rooms, defScope s_tied_rooms, [], []⟩
def d_blindly : He.DefD := ⟨("blindly", none), "blindly", "blindly", defArgs s_blindly, defBody s_blindly, defScope s_blindly, [], []⟩
def d_check_few_needs : He.DefD := ⟨("check_few_needs", none), "check_few_needs", "check_few_needs", defArgs s_check_few_needs, defBody s_check_few_needs, defScope s_check_few_needs, [], []⟩
def d_order_of : He.DefD := ⟨("order_of", none), "order_of", "order_of", defArgs s_order_of, defBody s_order_of, defScope s_order_of, [], []⟩
def d_choices : He.DefD := ⟨("choices", none), "choices", "choices", defArgs s_choices, defBody s_choices, defScope s_choices, [], []⟩
def d_lots_for : He.DefD := ⟨("lots_for", none), "lots_for", "lots_for", defArgs s_lots_for, defBody s_lots_for, defScope s_lots_for, [], []⟩
def d_tied_all : He.DefD := ⟨("tied_all", none), "tied_all", "tied_all", defArgs s_tied_all, defBody s_tied_all, defScope s_tied_all, [], []⟩
def d_is_too_few : He.DefD := ⟨("is_too_few", none), "is_too_few", "is_too_few", defArgs s_is_too_few, defBody s_is_too_few, defScope s_is_too_few, [], []⟩
def d_raw_dyeing : He.DefD := ⟨("raw_dyeing", none), "raw_dyeing", "raw_dyeing", defArgs s_raw_dyeing, defBody s_raw_dyeing, defScope s_raw_dyeing, [], []⟩
def d_dyeing : He.DefD := ⟨("dyeing", none), "dyeing", "dyeing", defArgs s_dyeing, defBody s_dyeing, defScope s_dyeing, [], []⟩
def d_in_turn : He.DefD := ⟨("in_turn", none), "in_turn", "in_turn", defArgs s_in_turn, defBody s_in_turn, defScope s_in_turn, [], []⟩
def d_row_for : He.DefD := ⟨("row_for", none), "row_for", "row_for", defArgs s_row_for, defBody s_row_for, defScope s_row_for, [], []⟩
def d_tags_of : He.DefD := ⟨("tags_of", none), "tags_of", "tags_of", defArgs s_tags_of, defBody s_tags_of, defScope s_tags_of, [], []⟩
def d_blind_row : He.DefD := ⟨("blind_row", none), "blind_row", "blind_row", defArgs s_blind_row, defBody s_blind_row, defScope s_blind_row, [], []⟩
def d_begun : He.DefD := ⟨("begun", none), "begun", "begun", defArgs s_begun, defBody s_begun, defScope s_begun, [], []⟩
def d_kept_tags : He.DefD := ⟨("kept_tags", none), "kept_tags", "kept_tags", defArgs s_kept_tags, defBody s_kept_tags, defScope s_kept_tags, [], []⟩
def d_raw_after : He.DefD := ⟨("raw_after", none), "raw_after", "raw_after", defArgs s_raw_after, defBody s_raw_after, defScope s_raw_after, [], []⟩
def d_raw_barred : He.DefD := ⟨("raw_barred", none), "raw_barred", "raw_barred", defArgs s_raw_barred, defBody s_raw_barred, defScope s_raw_barred, [], []⟩
def d_is_ask : He.DefD := ⟨("is_ask", none), "is_ask", "is_ask", defArgs s_is_ask, defBody s_is_ask, defScope s_is_ask, [], []⟩
def d_first_none : He.DefD := ⟨("first_none", none), "first_none", "first_none", defArgs s_first_none, defBody s_first_none, defScope s_first_none, [], []⟩
def d_is_row : He.DefD := ⟨("is_row", none), "is_row", "is_row", defArgs s_is_row, defBody s_is_row, defScope s_is_row, [], []⟩
def d_word_of : He.DefD := ⟨("word_of", none), "word_of", "word_of", defArgs s_word_of, defBody s_word_of, defScope s_word_of, [], []⟩
def d_Leading_init : He.DefD := ⟨("Leading", some "__init__"), "__init__", "Leading.__init__", defArgs s_Leading_init, defBody s_Leading_init, defScope s_Leading_init, [], []⟩
def d_Leading_done : He.DefD := ⟨("Leading", some "done"), "done", "Leading.done", defArgs s_Leading_done, defBody s_Leading_done, defScope s_Leading_done, [], []⟩
def d_Leading_answer : He.DefD := ⟨("Leading", some "answer"), "answer", "Leading.answer", defArgs s_Leading_answer, defBody s_Leading_answer, defScope s_Leading_answer, [], []⟩
def d_led : He.DefD := ⟨("led", none), "led", "led", defArgs s_led, defBody s_led, defScope s_led, [], []⟩
def d_law_hand : He.DefD := ⟨("_law_hand", none), "_law_hand", "_law_hand", defArgs s_law_hand, defBody s_law_hand, defScope s_law_hand, [], []⟩
def d_law_draw : He.DefD := ⟨("_law_draw", none), "_law_draw", "_law_draw", defArgs s_law_draw, defBody s_law_draw, defScope s_law_draw, [], []⟩
def d_law_spec : He.DefD := ⟨("_law_spec", none), "_law_spec", "_law_spec", defArgs s_law_spec, defBody s_law_spec, defScope s_law_spec, [], []⟩
def d_law_tied : He.DefD := ⟨("_law_tied", none), "_law_tied", "_law_tied", defArgs s_law_tied, defBody s_law_tied, defScope s_law_tied, [], []⟩
def d_law_is_whole : He.DefD := ⟨("_law_is_whole", none), "_law_is_whole", "_law_is_whole", defArgs s_law_is_whole, defBody s_law_is_whole, defScope s_law_is_whole, [], []⟩
def d_law_next : He.DefD := ⟨("_law_next", none), "_law_next", "_law_next", defArgs s_law_next, defBody s_law_next, defScope s_law_next, [], []⟩
def d_law_unseeing : He.DefD := ⟨("_law_unseeing", none), "_law_unseeing", "_law_unseeing", defArgs s_law_unseeing, defBody s_law_unseeing, defScope s_law_unseeing, [], []⟩
def d_law_all_tags : He.DefD := ⟨("_law_all_tags", none), "_law_all_tags", "_law_all_tags", defArgs s_law_all_tags, defBody s_law_all_tags, defScope s_law_all_tags, [], []⟩
def d_law_falls : He.DefD := ⟨("_law_falls", none), "_law_falls", "_law_falls", defArgs s_law_falls, defBody s_law_falls, defScope s_law_falls, [], []⟩
def d_law_led : He.DefD := ⟨("_law_led", none), "_law_led", "_law_led", defArgs s_law_led, defBody s_law_led, defScope s_law_led, [], []⟩
def d_law_row : He.DefD := ⟨("_law_row", none), "_law_row", "_law_row", defArgs s_law_row, defBody s_law_row, defScope s_law_row, [], []⟩
def d_law_turns : He.DefD := ⟨("_law_turns", none), "_law_turns", "_law_turns", defArgs s_law_turns, defBody s_law_turns, defScope s_law_turns, [], []⟩
def d_law_late : He.DefD := ⟨("_law_late", none), "_law_late", "_law_late", defArgs s_law_late, defBody s_law_late, defScope s_law_late, [], []⟩
def d_law_blind_right : He.DefD := ⟨("_law_blind_right", none), "_law_blind_right", "_law_blind_right", defArgs s_law_blind_right, defBody s_law_blind_right, defScope s_law_blind_right, [], []⟩
def d_law : He.DefD := ⟨("law", none), "law", "law", defArgs s_law, defBody s_law, defScope s_law, [], []⟩
def fnsA : List He.DefD := [d_is_integer, d_is_within, d_is_number, d_is_tuple_of, d_check_number, d_check_tags, d_is_tie, d_Web_init, d_is_room, d_tied_rooms, d_blindly, d_check_few_needs, d_order_of, d_choices, d_lots_for, d_tied_all, d_is_too_few, d_raw_dyeing, d_dyeing, d_in_turn, d_row_for, d_tags_of, d_blind_row, d_begun, d_kept_tags]
def fnsB : List He.DefD := [d_raw_after, d_raw_barred, d_is_ask, d_first_none, d_is_row, d_word_of, d_Leading_init, d_Leading_done, d_Leading_answer, d_led, d_law_hand, d_law_draw, d_law_spec, d_law_tied, d_law_is_whole, d_law_next, d_law_unseeing, d_law_all_tags, d_law_falls, d_law_led, d_law_row, d_law_turns, d_law_late, d_law_blind_right, d_law]
def fns : List He.DefD := fnsA ++ fnsB
def fas0 : List He.Fa := [.glo "is_integer", .glo "is_within", .glo "is_number", .glo "is_tuple_of", .glo "check_number", .glo "check_tags", .glo "is_tie", .glo "is_room", .glo "tied_rooms", .glo "blindly", .glo "check_few_needs", .glo "order_of", .glo "choices", .glo "lots_for", .glo "tied_all", .glo "is_too_few", .glo "raw_dyeing", .glo "dyeing", .glo "in_turn", .glo "row_for", .glo "tags_of", .glo "blind_row", .glo "begun", .glo "kept_tags", .glo "raw_after", .glo "raw_barred", .glo "is_ask", .glo "first_none", .glo "is_row", .glo "word_of"]
def fas1 : List He.Fa := [.glo "led", .glo "_law_hand", .glo "_law_draw", .glo "_law_spec", .glo "_law_tied", .glo "_law_is_whole", .glo "_law_next", .glo "_law_unseeing", .glo "_law_all_tags", .glo "_law_falls", .glo "_law_led", .glo "_law_row", .glo "_law_turns", .glo "_law_late", .glo "_law_blind_right", .glo "law", .glo "Web", .glo "Leading", .free "isinstance", .free "int", .free "bool", .free "tuple", .free "len", .free "all", .free "enumerate", .free "sorted", .free "list", .free "range", .free "min", .free "dict"]
def fas2 : List He.Fa := [.free "max", .free "sum", .free "set", .free "any", .free "str", .free "zip", .free "abs", .int "MOST_TAGS" 200, .int "MOST_ROOMS" 60, .int "MOST_MEMORY" 30, .int "MOST_NEEDS" 24, .int "MOST_EACH" 60, .cls "Web", .cls "Leading", .noat "Web" "memories", .noat "Web" "ties", .noat "Leading" "keeper", .noat "Leading" "web", .noat "Leading" "k", .noat "Leading" "done_so_far", .noat "Leading" "here", .meth "Leading" "done", .meth "Leading" "answer", .mkr "Web", .mkr "Leading"]
def fas : List He.Fa := fas0 ++ fas1 ++ fas2
def lse0 : List PySem.Str := [("TagError" : PySem.Str), ("BadWeb" : PySem.Str), ("NoRow" : PySem.Str), ("TooMany" : PySem.Str), ("NoNumber" : PySem.Str), ("NoTags" : PySem.Str), ("MOST_TAGS" : PySem.Str), ("is_integer" : PySem.Str), ("is_within" : PySem.Str), ("is_number" : PySem.Str), ("is_tuple_of" : PySem.Str), ("check_number" : PySem.Str), ("check_tags" : PySem.Str), ("MOST_ROOMS" : PySem.Str), ("MOST_MEMORY" : PySem.Str), ("is_tie" : PySem.Str), ("Web" : PySem.Str), ("is_room" : PySem.Str), ("tied_rooms" : PySem.Str), ("MOST_NEEDS" : PySem.Str), ("MOST_EACH" : PySem.Str), ("blindly" : PySem.Str), ("check_few_needs" : PySem.Str), ("order_of" : PySem.Str), ("choices" : PySem.Str), ("lots_for" : PySem.Str), ("tied_all" : PySem.Str), ("is_too_few" : PySem.Str), ("raw_dyeing" : PySem.Str), ("dyeing" : PySem.Str)]
def lse1 : List PySem.Str := [("in_turn" : PySem.Str), ("row_for" : PySem.Str), ("tags_of" : PySem.Str), ("blind_row" : PySem.Str), ("begun" : PySem.Str), ("kept_tags" : PySem.Str), ("raw_after" : PySem.Str), ("raw_barred" : PySem.Str), ("is_ask" : PySem.Str), ("first_none" : PySem.Str), ("is_row" : PySem.Str), ("word_of" : PySem.Str), ("Leading" : PySem.Str), ("led" : PySem.Str), ("_law_hand" : PySem.Str), ("_law_draw" : PySem.Str), ("_law_spec" : PySem.Str), ("_law_tied" : PySem.Str), ("_law_is_whole" : PySem.Str), ("_law_next" : PySem.Str), ("_law_unseeing" : PySem.Str), ("_law_all_tags" : PySem.Str), ("_law_falls" : PySem.Str), ("_law_led" : PySem.Str), ("_law_row" : PySem.Str), ("_law_turns" : PySem.Str), ("_law_late" : PySem.Str), ("_law_blind_right" : PySem.Str)]
def loose : List PySem.Str := lse0 ++ lse1
def tfs : List He.Defn := [("blindly", none), ("in_turn", none), ("_law_unseeing", none)]
abbrev R20 : PySem.W.OpenRow := PySem.W.OpenLaw.row PySem.Challenge.rw_staletags_k20_whole_unseeing_keepers_and
abbrev hk : PySem.W.Hook := He.hookX 5 fas fns [] tfs (fun _ => true)
def ob (s : PySem.W.SharedT) : He.AlX := He.obsX 5 fas fns [] tfs (fun _ => true) (HandSHeadRun.getT s)
theorem ob_eq (s : PySem.W.SharedT) : ob s = hk.obs s.abs := He.obsX_eq (HandSHeadRun.getT_eq s)
end K20
end
section
set_option linter.all false
set_option maxRecDepth 100000
set_option maxHeartbeats 4000000
namespace K20
open PySem PySem.Spec PyProof.Rows L2
def tabD (K : PySem.W.Frag) (x : Str) : Addr := (He.cT K (x, none)).2
/-- the three tables are three -/
def exT (K : PySem.W.Frag) : Bool := !decide (tabD K "blindly" = tabD K "in_turn") && (!decide (tabD K "blindly" = tabD K "_law_unseeing") && !decide (tabD K "in_turn" = tabD K "_law_unseeing"))
abbrev hk3 : PySem.W.Hook := He.hookX 5 fas fns [] tfs exT
def ob3 (s : PySem.W.SharedT) : He.AlX := He.obsX 5 fas fns [] tfs exT (HandSHeadRun.getT s)
theorem ob3_eq (s : PySem.W.SharedT) : ob3 s = hk3.obs s.abs := He.obsX_eq (HandSHeadRun.getT_eq s)
set_option maxHeartbeats 0 in
theorem headrun3 (w : World) : HandSHeadRun.RunEq R20 (PySem.W.view R20.prog [65]) hk3 ob3 20000 loose w := by
  intro os
  kernel_rfl
end K20
end
section
set_option linter.all false
set_option maxRecDepth 100000
set_option maxHeartbeats 2000000
/-! Modes: heaps seen without the hand and the code tables; values as data; what a reading evaluates to. -/
namespace K20
open PySem PySem.Spec PyProof.Rows L2 LamX NdefX
/-! ### modes -/
structure Md where
  T : List NTab
  hd : Option (Addr × Addr × List Int)
  lo : List Addr
def isTbl : HO → Bool
  | .tbl _ => true
  | _ => false
def isExt : HO → Bool
  | .ext _ => true
  | _ => false
theorem isTbl_ne {o : HO} (h : isTbl o = false) (ps : Array Value) : o ≠ .tbl ps := fun e => by
  rw [e] at h
  cases h
theorem ne_isTbl {o : HO} (h : ∀ ps, o ≠ .tbl ps) : isTbl o = false := by
  cases o with
  | tbl ps => exact absurd rfl (h ps)
  | _ => rfl
def Md.at (m : Md) (b : Addr) : Prop := (∃ c l, m.hd = some (b, c, l)) ∨ b ∈ m.lo
open Classical in
noncomputable def Md.vw (m : Md) (H : Hp) : Hp := fun b => if m.at b then none else (H b).bind fun o => if isTbl o = true then none else some o
def Md.hand (m : Md) (H : Hp) : Prop := ∀ a c l, m.hd = some (a, c, l) → ∃ i x s t : Int, H a = some (.lst [.ref c, .int i, .int x, .int s, .int t]) ∧ 0 ≤ i ∧ c ≠ a ∧ H c = some (.lst (l.map V.int)) ∧ l.length ≤ 63
/-- o is no code object at p -/
def NC (p : Addr) (o : HO) : Prop := ∀ q : Str, o ≠ CodeO p q
theorem nc_of {p : Addr} {o : HO} (h : isExt o = false) : NC p o := fun q e => by
  rw [e] at h
  cases h
structure Md.ok (m : Md) (H : Hp) : Prop where
  tabs : TabsN m.T H
  hand : m.hand H
  lo : ∀ p ∈ m.lo, ∃ o, H p = some o ∧ isTbl o = false ∧ NC p o
  apart : ∀ p ∈ m.lo, ∀ a c l, m.hd = some (a, c, l) → p ≠ a ∧ p ≠ c
/-- from H to H': all that is seen stays; of the hidden ones those at ps may have changed -/
structure Md.W (m : Md) (ps : List Addr) (H H' : Hp) : Prop where
  ok : m.ok H'
  ex : Same (m.vw H) (m.vw H')
  dom : ∀ b, H' b = none → H b = none
  keep : ∀ p ∈ m.lo, p ∉ ps → H' p = H p
abbrev Md.R (m : Md) : Hp → Hp → Prop := m.W []
section
variable {m : Md} {ps : List Addr} {H H' H1 H2 : Hp} {b p : Addr} {o o' : HO}
theorem vw_sub (h : m.vw H b = some o) : H b = some o := by
  unfold Md.vw at h
  split at h
  · cases h
  · cases e : H b with
    | none =>
      rw [e] at h
      cases h
    | some u =>
      rw [e] at h
      have h2 : (if isTbl u = true then none else some u) = some o := h
      split at h2
      · cases h2
      · exact h2
theorem vw_tbl (h : m.vw H b = some o) : isTbl o = false := by
  unfold Md.vw at h
  split at h
  · cases h
  · cases e : H b with
    | none =>
      rw [e] at h
      cases h
    | some u =>
      rw [e] at h
      have h2 : (if isTbl u = true then none else some u) = some o := h
      split at h2
      · cases h2
      · rename_i q
        rw [← Option.some.inj h2]
        cases z : isTbl u with
        | true => exact absurd z q
        | false => rfl
theorem vw_at (h : m.vw H b = some o) : ¬ m.at b := fun z => by
  unfold Md.vw at h
  rw [if_pos z] at h
  cases h
theorem vw_of (h : H b = some o) (ht : isTbl o = false) (hn : ¬ m.at b) : m.vw H b = some o := by
  unfold Md.vw
  rw [if_neg hn, h]
  show (if isTbl o = true then none else some o) = some o
  rw [if_neg (by rw [ht]; decide)]
theorem vw_same : Same (m.vw H) H := fun _ _ h => vw_sub h
theorem ok_at (k : m.ok H) (h : H b = none) : ¬ m.at b := fun z => by
  rcases z with ⟨c, l, e⟩ | z
  · obtain ⟨i, x, s, t, e1, _⟩ := k.hand b c l e
    rw [h] at e1
    cases e1
  · obtain ⟨o, e1, _⟩ := k.lo b z
    rw [h] at e1
    cases e1
theorem see (k : m.ok H) (h : H p = none) (h' : H' p = some o) (ht : isTbl o = false) : m.vw H' p = some o := vw_of h' ht (ok_at k h)
theorem vw_ext (e : ExtN H H') : Same (m.vw H) (m.vw H') := fun b o h => vw_of (e b o (vw_sub h) (isTbl_ne (vw_tbl h))) (vw_tbl h) (vw_at h)
theorem R.refl (k : m.ok H) : m.R H H := ⟨k, fun _ _ h => h, fun _ h => h, fun _ _ _ => rfl⟩
theorem W.refl (k : m.ok H) : m.W ps H H := ⟨k, fun _ _ h => h, fun _ h => h, fun _ _ _ => rfl⟩
theorem W.trans (a : m.W ps H H1) (b : m.W ps H1 H2) : m.W ps H H2 := ⟨b.ok, a.ex.trans b.ex, fun c h => a.dom c (b.dom c h), fun p hp hn => (b.keep p hp hn).trans (a.keep p hp hn)⟩
theorem R.trans (a : m.R H H1) (b : m.R H1 H2) : m.R H H2 := W.trans a b
theorem R.w (a : m.R H H') : m.W ps H H' := ⟨a.ok, a.ex, a.dom, fun p hp _ => a.keep p hp (by simp)⟩
theorem R.lo (a : m.R H H') (hp : p ∈ m.lo) : H' p = H p := a.keep p hp (by simp)
theorem R.of_extN (k : m.ok H) (e : ExtN H H') (t : TabsN m.T H') (d : ∀ b, H' b = none → H b = none) : m.R H H' :=
  ⟨⟨t, fun a c l q => by
    obtain ⟨i, x, s, t, e1, e2, e3, e4, e5⟩ := k.hand a c l q
    exact ⟨i, x, s, t, e a _ e1 (fun ps z => by cases z), e2, e3, e c _ e4 (fun ps z => by cases z), e5⟩, fun p hp => by
    obtain ⟨o, h1, h2, h3⟩ := k.lo p hp
    exact ⟨o, e p o h1 (isTbl_ne h2), h2, h3⟩, k.apart⟩, vw_ext e, d, fun p hp _ => by
    obtain ⟨o, h1, h2, h3⟩ := k.lo p hp
    rw [h1]
    exact e p o h1 (isTbl_ne h2)⟩
theorem R.of_same (k : m.ok H) (e : Same H H') : m.R H H' := R.of_extN k (ExtN.of e) (k.tabs.ext e) fun b h => e.free h
theorem R.new (k : m.ok H) (h : H p = none) : m.R H (upd H p o) := R.of_same k fun b u e => by
  rw [upd_ne (ne_of_none e h)]
  exact e
/-- a hidden object is written -/
theorem W.put (k : m.ok H) (hp : p ∈ m.lo) (hps : p ∈ ps) (ht : isTbl o = false := by rfl) (hx : NC p o := by exact nc_of rfl) : m.W ps H (upd H p o) := by
  obtain ⟨op, g1, g2, g3⟩ := k.lo p hp
  refine ⟨⟨fun q hq => ?_, fun a c l q => ?_, fun q hq => ?_, k.apart⟩, fun b u e => ?_, fun b e => ?_, fun q hq hn => ?_⟩
  · obtain ⟨qs, h1, h2, h3⟩ := k.tabs q hq
    have nq : q.1 ≠ p := fun z => by
      rw [z, g1] at h1
      rw [Option.some.inj h1] at g2
      cases g2
    refine ⟨qs, by rw [upd_ne nq]; exact h1, h2, fun pos cv hc => ?_⟩
    obtain ⟨c, e1, e2⟩ := h3 pos cv hc
    refine ⟨c, e1, ?_⟩
    have nc : c ≠ p := fun z => by
      rw [z, g1] at e2
      exact g3 _ (Option.some.inj e2)
    rw [upd_ne nc]
    exact e2
  · obtain ⟨i, x, s, t, e1, e2, e3, e4, e5⟩ := k.hand a c l q
    obtain ⟨n1, n2⟩ := k.apart p hp a c l q
    exact ⟨i, x, s, t, by rw [upd_ne n1.symm]; exact e1, e2, e3, by rw [upd_ne n2.symm]; exact e4, e5⟩
  · by_cases z : q = p
    · rw [z]
      exact ⟨o, upd_same, ht, hx⟩
    · rw [upd_ne z]
      exact k.lo q hq
  · have nb : b ≠ p := fun z => vw_at e (.inr (by rw [z]; exact hp))
    refine vw_of ?_ (vw_tbl e) (vw_at e)
    rw [upd_ne nb]
    exact vw_sub e
  · by_cases q : b = p
    · rw [q, upd_same] at e
      cases e
    · rw [upd_ne q] at e
      exact e
  · exact upd_ne fun z => hn (by rw [z]; exact hps)
/-! hiding -/
def Md.hide (m : Md) (p : Addr) : Md := { m with lo := p :: m.lo }
theorem hide_ok (k : m.ok H) (h : H p = none) (ht : isTbl o = false := by rfl) (hx : NC p o := by exact nc_of rfl) : (m.hide p).ok (upd H p o) := by
  have k1 := (R.new (p := p) (o := o) k h).ok
  refine ⟨k1.tabs, k1.hand, fun q hq => ?_, fun q hq a c l e => ?_⟩
  · rcases List.mem_cons.mp hq with z | z
    · rw [z]
      exact ⟨o, upd_same, ht, hx⟩
    · exact k1.lo q z
  · rcases List.mem_cons.mp hq with z | z
    · obtain ⟨i, x, s, t, e1, _, _, e4, _⟩ := k.hand a c l e
      rw [z]
      refine ⟨fun y => ?_, fun y => ?_⟩
      · rw [← y, h] at e1
        cases e1
      · rw [← y, h] at e4
        cases e4
    · exact k.apart q z a c l e
theorem hide_vw (k : m.ok H) (h : H p = none) : Same (m.vw H) ((m.hide p).vw (upd H p o)) := fun b u e => by
  have nb : b ≠ p := fun z => by
    rw [z] at e
    have e1 := vw_sub e
    rw [h] at e1
    cases e1
  refine vw_of (by rw [upd_ne nb]; exact vw_sub e) (vw_tbl e) fun z => ?_
  rcases z with z | z
  · exact vw_at e (.inl z)
  · rcases List.mem_cons.mp z with z | z
    · exact nb z
    · exact vw_at e (.inr z)
theorem unhide_vw : Same ((m.hide p).vw H) (m.vw H) := fun b u e => vw_of (vw_sub e) (vw_tbl e) fun z => vw_at e (by
  rcases z with z | z
  · exact .inl z
  · exact .inr (List.mem_cons_of_mem _ z))
theorem unhide_ok (k : (m.hide p).ok H) : m.ok H := ⟨k.tabs, k.hand, fun q hq => k.lo q (List.mem_cons_of_mem _ hq), fun q hq => k.apart q (List.mem_cons_of_mem _ hq)⟩
/-- what a def did to objects of its own is not seen from outside -/
theorem unhide {qs : List Addr} (k : m.ok H) (h : H p = none) (w : (m.hide p).W (p :: qs) (upd H p o) H') : m.W qs H H' := by
  refine ⟨unhide_ok w.ok, ((hide_vw k h).trans w.ex).trans unhide_vw, fun b e => ?_, fun q hq hn => ?_⟩
  · have e1 := w.dom b e
    by_cases z : b = p
    · rw [z, upd_same] at e1
      cases e1
    · rw [upd_ne z] at e1
      exact e1
  · have nq : q ≠ p := fun z => by
      obtain ⟨u, e1, _⟩ := k.lo q hq
      rw [z, h] at e1
      cases e1
    rw [w.keep q (List.mem_cons_of_mem _ hq) (fun z => (List.mem_cons.mp z).elim nq hn), upd_ne nq]
end
/-! ### data -/
section
variable {K : PySem.W.Frag} {H H' : Hp}
theorem sqL_mono {a : Addr} {xs : List V} (e : Same H H') (h : SqL K H a xs) : SqL K H' a xs := e.seq h
theorem sqT_mono {a : Addr} {xs : List V} (e : Same H H') (h : SqT K H a xs) : SqT K H' a xs := by
  rcases h with (h | ⟨o, h⟩) | h
  · exact .inl (.inl (e _ _ h))
  · exact .inl (.inr ⟨o, e _ _ h⟩)
  · exact .inr h
mutual
theorem Dp.mono (e : Same H H') : ∀ (d : PyData) (v : V), Dp K H v d → Dp K H' v d
  | .none, _, .non => .non
  | .bool _, _, .bl b => .bl b
  | .int _, _, .int i => .int i
  | .str _, _, .str x => .str x
  | .list ds, _, .lst h1 h2 => .lst (sqL_mono e h1) (DpAll.mono e ds _ h2)
  | .tuple ds, _, .tup h1 h2 => .tup (sqT_mono e h1) (DpAll.mono e ds _ h2)
  | .dict _, _, h => by cases h
theorem DpAll.mono (e : Same H H') : ∀ (ds : List PyData) (vs : List V), DpAll K H vs ds → DpAll K H' vs ds
  | [], _, .nil => .nil
  | d :: ds, _, .cons h1 h2 => .cons (Dp.mono e d _ h1) (DpAll.mono e ds _ h2)
end
theorem dpAll_len : ∀ {ds : List PyData} {vs : List V}, DpAll K H vs ds → vs.length = ds.length
  | _, _, .nil => rfl
  | _, _, .cons _ t => by rw [List.length_cons, List.length_cons, dpAll_len t]
theorem dpAll_get : ∀ {ds : List PyData} {vs : List V} {i : Nat} {v : V}, DpAll K H vs ds → vs[i]? = some v → ∃ d, ds[i]? = some d ∧ Dp K H v d
  | _, _, _, _, .nil, e => by simp at e
  | _, _, 0, _, .cons r _, e => by
    simp at e
    subst e
    exact ⟨_, rfl, r⟩
  | _, _, i + 1, v, .cons _ t, e => by
    obtain ⟨d, h1, h2⟩ := dpAll_get (i := i) (v := v) t (by simpa using e)
    exact ⟨d, by simpa using h1, h2⟩
theorem dpAll_at : ∀ {ds : List PyData} {vs : List V} {i : Nat} {d : PyData}, DpAll K H vs ds → ds[i]? = some d → ∃ v, vs[i]? = some v ∧ Dp K H v d
  | _, _, _, _, .nil, e => by simp at e
  | _, _, 0, _, .cons r _, e => by
    simp at e
    subst e
    exact ⟨_, rfl, r⟩
  | _, _, i + 1, v, .cons _ t, e => by
    obtain ⟨d, h1, h2⟩ := dpAll_at (i := i) (d := v) t (by simpa using e)
    exact ⟨d, by simpa using h1, h2⟩
theorem dpAll_app : ∀ {ds es : List PyData} {vs ws : List V}, DpAll K H vs ds → DpAll K H ws es → DpAll K H (vs ++ ws) (ds ++ es)
  | _, _, _, _, .nil, h => h
  | _, _, _, _, .cons r t, h => .cons r (dpAll_app t h)
theorem dpAll_take : ∀ {ds : List PyData} {vs : List V} (n : Nat), DpAll K H vs ds → DpAll K H (vs.take n) (ds.take n)
  | _, _, 0, _ => .nil
  | _, _, _ + 1, .nil => .nil
  | _, _, n + 1, .cons r t => .cons r (dpAll_take n t)
theorem dpAll_drop : ∀ {ds : List PyData} {vs : List V} (n : Nat), DpAll K H vs ds → DpAll K H (vs.drop n) (ds.drop n)
  | _, _, 0, r => r
  | _, _, _ + 1, .nil => .nil
  | _, _, n + 1, .cons _ t => dpAll_drop n t
theorem dpAll_set : ∀ {ds : List PyData} {vs : List V} (i : Nat) {v : V} {d : PyData}, Dp K H v d → DpAll K H vs ds → DpAll K H (vs.set i v) (ds.set i d)
  | _, _, _, _, _, _, .nil => .nil
  | _, _, 0, _, _, r, .cons _ t => .cons r t
  | _, _, i + 1, _, _, r, .cons q t => .cons q (dpAll_set i r t)
theorem dpAll_erase : ∀ {ds : List PyData} {vs : List V} (i : Nat), DpAll K H vs ds → DpAll K H (vs.eraseIdx i) (ds.eraseIdx i)
  | _, _, _, .nil => .nil
  | _, _, 0, .cons _ t => t
  | _, _, i + 1, .cons q t => .cons q (dpAll_erase i t)
theorem dpAll_rep {v : V} {d : PyData} (h : Dp K H v d) : ∀ n : Nat, DpAll K H (List.replicate n v) (List.replicate n d)
  | 0 => .nil
  | n + 1 => .cons h (dpAll_rep h n)
theorem dpAll_reps {vs : List V} {ds : List PyData} (h : DpAll K H vs ds) : ∀ n : Nat, DpAll K H (List.replicate n vs).flatten (List.replicate n ds).flatten
  | 0 => .nil
  | n + 1 => by
    rw [List.replicate_succ, List.replicate_succ, List.flatten_cons, List.flatten_cons]
    exact dpAll_app h (dpAll_reps h n)
theorem dp_int {v : V} {i : Int} (h : Dp K H v (.int i)) : v = .int i := by cases h; rfl
theorem dp_str {v : V} {i : Str} (h : Dp K H v (.str i)) : v = .str i := by cases h; rfl
theorem dp_bl {v : V} {i : Bool} (h : Dp K H v (.bool i)) : v = .bl i := by cases h; rfl
theorem dp_non {v : V} (h : Dp K H v .none) : v = .non := by cases h; rfl
theorem dp_tup {v : V} {ds : List PyData} (h : Dp K H v (.tuple ds)) : ∃ a xs, v = .ref a ∧ SqT K H a xs ∧ DpAll K H xs ds := by
  cases h with
  | tup h1 h2 => exact ⟨_, _, rfl, h1, h2⟩
theorem dp_lst {v : V} {ds : List PyData} (h : Dp K H v (.list ds)) : ∃ a xs, v = .ref a ∧ SqL K H a xs ∧ DpAll K H xs ds := by
  cases h with
  | lst h1 h2 => exact ⟨_, _, rfl, h1, h2⟩
theorem dpAll_ints : ∀ {ns : List Int} {xs : List V}, DpAll K H xs (ns.map PyData.int) → xs = ns.map V.int
  | [], _, .nil => rfl
  | n :: ns, _, .cons h t => by
    rw [dp_int h, dpAll_ints t, List.map_cons]
theorem ints_dpAll : ∀ (ns : List Int), DpAll K H (ns.map V.int) (ns.map PyData.int)
  | [] => .nil
  | n :: ns => .cons (.int n) (ints_dpAll ns)
theorem dpAll_bls : ∀ {ns : List Bool} {xs : List V}, DpAll K H xs (ns.map PyData.bool) → xs = ns.map V.bl
  | [], _, .nil => rfl
  | n :: ns, _, .cons h t => by
    rw [dp_bl h, dpAll_bls t, List.map_cons]
theorem bls_dpAll : ∀ (ns : List Bool), DpAll K H (ns.map V.bl) (ns.map PyData.bool)
  | [] => .nil
  | n :: ns => .cons (.bl n) (bls_dpAll ns)
end
def dInts (l : List Int) : PyData := .tuple (l.map .int)
def dNats (l : List Nat) : PyData := .tuple (l.map fun (n : Nat) => PyData.int (n : Int))
def dPair (p : Nat × Nat) : PyData := .tuple [.int (p.1 : Int), .int (p.2 : Int)]
def dPairs (l : List (Nat × Nat)) : PyData := .tuple (l.map dPair)
theorem dNats_ints (l : List Nat) : dNats l = dInts (l.map fun (n : Nat) => (n : Int)) := by
  unfold dNats dInts
  rw [List.map_map]
  rfl
end K20
end
section
set_option linter.all false
set_option maxRecDepth 100000
set_option maxHeartbeats 2000000
set_option autoImplicit false
namespace K20
open PySem PySem.Spec PyProof.Rows L2 LamX NdefX
/-! ### the three closures -/
def sKeeper : Stmt := (defBody s_blindly).getD 0 (.Pass ⟨0, 0, 0, 0⟩)
def sUns : Stmt := (defBody s_in_turn).getD 0 (.Pass ⟨0, 0, 0, 0⟩)
def lamE : Expr := match (defBody s_law_unseeing).getD 0 (.Pass ⟨0, 0, 0, 0⟩) with
  | .Return (some e) _ => e
  | _ => .Constant .none 0 ⟨0, 0, 0, 0⟩
def lamArgs : Arguments := match lamE with
  | .Lambda a _ _ _ => a
  | _ => { posonlyargs := [], args := [], vararg := none, kwonlyargs := [], kw_defaults := [], kwarg := none, defaults := [] }
def lamBody : Expr := match lamE with
  | .Lambda _ b _ _ => b
  | e => e
def lamScope : Scope := match lamE with
  | .Lambda _ _ s _ => s
  | _ => { kind := .function, names := [], isGenerator := false, isCoroutine := false }
def qKeeper : Str := "blindly.<locals>.keeper"
def qUns : Str := "in_turn.<locals>.unseeing"
def qLam : Str := "_law_unseeing.<locals>.<lambda>"
def keepF (c1 c' : Addr) : NF := NF.of sKeeper "keeper" qKeeper [("unseeing", c1)] c'
def unsF (c1 c' : Addr) : NF := NF.of sUns "unseeing" qUns [("dyes", c1)] c'
def lamCl (c1 c2 : Addr) : List (Str × Addr) := [("_law_turns_here", c1), ("_law_late_here", c2)]
/-- the lambda at f, its cells' addresses cl, its code object at c' -/
def LamO (f : Addr) (cl : List (Str × Addr)) (c' : Addr) : HO := .ext fun h => ∃ (od : Option Addr) (sl : Array (Option Value)) (pm ctv : Value), h.get? f = some (⟨.type "function", od, .func (PySem.W.kla_fn "<lambda>" qLam lamArgs lamBody lamScope cl pm (.ref c') ctv), sl⟩ : Obj)
/-- a cell that holds v -/
def CellO (c : Addr) (v : V) : HO := .ext fun h => ∃ u, RelV v u ∧ h.IsCell c (some u)
/-! ### heaps without some addresses -/
open Classical in
noncomputable def del (cs : List Addr) (H : Hp) : Hp := fun b => if b ∈ cs then none else H b
theorem del_of {cs : List Addr} {H : Hp} {b : Addr} {o : HO} (h : H b = some o) (n : b ∉ cs) : del cs H b = some o := by
  unfold del
  rw [if_neg n]
  exact h
theorem of_del {cs : List Addr} {H : Hp} {b : Addr} {o : HO} (h : del cs H b = some o) : H b = some o ∧ b ∉ cs := by
  unfold del at h
  split at h
  · cases h
  · rename_i n
    exact ⟨h, n⟩
theorem del_same {cs : List Addr} {H : Hp} : Same (del cs H) H := fun _ _ h => (of_del h).1
theorem del_mono {cs : List Addr} {H H' : Hp} (e : Same H H') : Same (del cs H) (del cs H') := fun b o h => del_of (e b o (of_del h).1) (of_del h).2
theorem del_free {cs : List Addr} {H : Hp} {b : Addr} (h : b ∈ cs) : del cs H b = none := by
  unfold del
  rw [if_pos h]
/-! ### what an unseeing keeper gives -/
def turnM (ts : List (List Int)) (r : Nat) (tags : List Int) : PyData := .int ((ts.getD r []).getD (tags.length % (ts.getD r []).length) 0)
def nextM (ts : List (List Int)) (late : Option (Nat × Nat × PyData)) (r : Nat) (tags : List Int) : PyData := match late with
  | some (lr, lg, o) => if lr = r ∧ lg = tags.length then o else turnM ts r tags
  | none => turnM ts r tags
def dLate : Option (Nat × Nat × PyData) → PyData
  | some (lr, lg, o) => .tuple [.int (lr : Int), .int (lg : Int), o]
  | none => .none
/-- which rows an unseeing keeper may have -/
def RowsOk (n : Nat) (ts : List (List Int)) : Prop := n ≤ ts.length ∧ ∀ t ∈ ts, t ≠ []
def LamAt (K : PySem.W.Frag) (H : Hp) (v : V) (n : Nat) (nx : Nat → List Int → PyData) : Prop :=
  ∃ (f c' c1 c2 : Addr) (tv lv : V) (ts : List (List Int)) (late : Option (Nat × Nat × PyData)), v = .ref f ∧ H f = some (LamO f (lamCl c1 c2) c') ∧ H c' = some (CodeO c' qLam) ∧ c1 ≠ c2 ∧ f ∉ [c1, c2] ∧ c' ∉ [c1, c2] ∧ H c1 = some (CellO c1 tv) ∧ H c2 = some (CellO c2 lv) ∧
    Dp K (del [c1, c2] H) tv (.list (ts.map dInts)) ∧ Dp K (del [c1, c2] H) lv (dLate late) ∧ RowsOk n ts ∧ nx = nextM ts late
def TurnAt (K : PySem.W.Frag) (H : Hp) (v : V) (n : Nat) (nx : Nat → List Int → PyData) : Prop :=
  ∃ (f c' c1 : Addr) (tv : V) (ts : List (List Int)), v = .ref f ∧ H f = some (FnO f (unsF c1 c')) ∧ H c' = some (CodeO c' qUns) ∧ f ∉ [c1] ∧ c' ∉ [c1] ∧ H c1 = some (CellO c1 tv) ∧ Dp K (del [c1] H) tv (.tuple (ts.map dInts)) ∧ RowsOk n ts ∧ nx = nextM ts none
def UnsAt (K : PySem.W.Frag) (H : Hp) (v : V) (n : Nat) (nx : Nat → List Int → PyData) : Prop := LamAt K H v n nx ∨ TurnAt K H v n nx
def KprAt (K : PySem.W.Frag) (H : Hp) (v : V) (n : Nat) (nx : Nat → List Int → PyData) : Prop :=
  ∃ (f c' c1 : Addr) (uv : V), v = .ref f ∧ H f = some (FnO f (keepF c1 c')) ∧ H c' = some (CodeO c' qKeeper) ∧ f ∉ [c1] ∧ c' ∉ [c1] ∧ H c1 = some (CellO c1 uv) ∧ UnsAt K (del [c1] H) uv n nx
section
variable {K : PySem.W.Frag} {H H' : Hp} {v : V} {n : Nat} {nx : Nat → List Int → PyData}
theorem UnsAt.mono (e : Same H H') (h : UnsAt K H v n nx) : UnsAt K H' v n nx := by
  rcases h with ⟨f, c', c1, c2, tv, lv, ts, late, h0, h1, h2, h3, h4, h5, h6, h7, h8, h9, h10⟩ | ⟨f, c', c1, tv, ts, h0, h1, h2, h3, h4, h5, h6, h7⟩
  · exact .inl ⟨f, c', c1, c2, tv, lv, ts, late, h0, e _ _ h1, e _ _ h2, h3, h4, h5, e _ _ h6, e _ _ h7, Dp.mono (del_mono e) _ _ h8, Dp.mono (del_mono e) _ _ h9, h10⟩
  · exact .inr ⟨f, c', c1, tv, ts, h0, e _ _ h1, e _ _ h2, h3, h4, e _ _ h5, Dp.mono (del_mono e) _ _ h6, h7⟩
theorem KprAt.mono (e : Same H H') (h : KprAt K H v n nx) : KprAt K H' v n nx := by
  obtain ⟨f, c', c1, uv, h0, h1, h2, h3, h4, h5, h6⟩ := h
  exact ⟨f, c', c1, uv, h0, e _ _ h1, e _ _ h2, h3, h4, e _ _ h5, h6.mono (del_mono e)⟩
end
/-! ### things -/
inductive Dx where
  | d (x : PyData)
  /-- a list that may be changed by its holder, as it stands -/
  | tl (xs : List PyData)
  /-- a list that may be read -/
  | rl (xs : List PyData)
  | v (x : V)
  | web (ms : List Nat) (ts : List (Nat × Nat))
  | uns (n : Nat) (nx : Nat → List Int → PyData)
  | kpr (n : Nat) (nx : Nat → List Int → PyData)
  | hand
  | dct (kvs : List (Int × List Int))
  /-- a tuple made here: its object has no dict of its own -/
  | nt (ds : List PyData)
  /-- a pair, its first a tuple made here -/
  | prn (ds : List PyData) (b : PyData)
def NtAt (K : PySem.W.Frag) (H : Hp) (v : V) (ds : List PyData) : Prop := ∃ a o xs, v = .ref a ∧ H a = some (.frz o (.tup xs)) ∧ o.dict = none ∧ DpAll K H xs ds
theorem NtAt.mono {K : PySem.W.Frag} {H H' : Hp} {v : V} {ds : List PyData} (e : Same H H') (h : NtAt K H v ds) : NtAt K H' v ds := by
  obtain ⟨a, o, xs, h0, h1, h2, h3⟩ := h
  exact ⟨a, o, xs, h0, e _ _ h1, h2, DpAll.mono e _ _ h3⟩
def PrnAt (K : PySem.W.Frag) (H : Hp) (v : V) (ds : List PyData) (b : PyData) : Prop := ∃ a x y, v = .ref a ∧ SqT K H a [x, y] ∧ NtAt K H x ds ∧ Dp K H y b
theorem PrnAt.mono {K : PySem.W.Frag} {H H' : Hp} {v : V} {ds : List PyData} {b : PyData} (e : Same H H') (h : PrnAt K H v ds b) : PrnAt K H' v ds b := by
  obtain ⟨a, x, y, h0, h1, h2, h3⟩ := h
  exact ⟨a, x, y, h0, sqT_mono e h1, h2.mono e, Dp.mono e _ _ h3⟩
def WebAt (K : PySem.W.Frag) (H : Hp) (v : V) (ms : List Nat) (ts : List (Nat × Nat)) : Prop :=
  ∃ (a dx : Addr) (fs : List (Str × V)) (p q : V), v = .ref a ∧ H a = some (.ins (He.ga K "Web") dx fs) ∧ fs.lookup ("memories" : Str) = some p ∧ fs.lookup ("ties" : Str) = some q ∧ Dp K H p (dNats ms) ∧ Dp K H q (dPairs ts)
def DctAt (K : PySem.W.Frag) (H : Hp) (v : V) (kvs : List (Int × List Int)) : Prop :=
  ∃ (a : Addr) (kv : List (Key × V)), v = .ref a ∧ H a = some (.dK kv) ∧ Paired (fun (p : Key × V) (q : Int × List Int) => p.1 = Sum.inl q.1 ∧ Dp K H p.2 (dInts q.2)) kv kvs
def Is (m : Md) (K : PySem.W.Frag) (H : Hp) (v : V) : Dx → Prop
  | .d x => Dp K (m.vw H) v x
  | .tl xs => ∃ a vs, v = .ref a ∧ m.vw H a = some (.lst vs) ∧ DpAll K (m.vw H) vs xs
  | .rl xs => ∃ a vs, v = .ref a ∧ (SqL K (m.vw H) a vs ∨ (a ∈ m.lo ∧ H a = some (.lst vs))) ∧ DpAll K (m.vw H) vs xs
  | .v x => v = x
  | .web ms ts => WebAt K (m.vw H) v ms ts
  | .uns n nx => UnsAt K (m.vw H) v n nx
  | .kpr n nx => KprAt K (m.vw H) v n nx
  | .hand => ∃ a c l, m.hd = some (a, c, l) ∧ v = .ref a
  | .dct kvs => DctAt K (m.vw H) v kvs
  | .nt ds => NtAt K (m.vw H) v ds
  | .prn ds b => PrnAt K (m.vw H) v ds b
def IsAll (m : Md) (K : PySem.W.Frag) (H : Hp) : List V → List Dx → Prop
  | [], [] => True
  | v :: vs, d :: ds => Is m K H v d ∧ IsAll m K H vs ds
  | _, _ => False
section
variable {m : Md} {K : PySem.W.Frag} {H H' : Hp} {v : V} {vs : List V} {d : Dx}
/-- all but what may be read alone -/
def Dx.fix : Dx → Bool
  | .rl _ => false
  | _ => true
theorem Is.same (e : Same (m.vw H) (m.vw H')) (h : Is m K H v d) (hd : d.fix = true) : Is m K H' v d := by
  cases d with
  | d x => exact Dp.mono e _ _ h
  | tl xs =>
    obtain ⟨a, ws, h0, h1, h2⟩ := h
    exact ⟨a, ws, h0, e _ _ h1, DpAll.mono e _ _ h2⟩
  | rl xs => cases hd
  | v x => exact h
  | web ms ts =>
    obtain ⟨a, dx, fs, p, q, h0, h1, h2, h3, h4, h5⟩ := h
    exact ⟨a, dx, fs, p, q, h0, e _ _ h1, h2, h3, Dp.mono e _ _ h4, Dp.mono e _ _ h5⟩
  | uns n nx => exact UnsAt.mono e h
  | kpr n nx => exact KprAt.mono e h
  | hand => exact h
  | dct kvs =>
    obtain ⟨a, kv, h0, h1, h2⟩ := h
    exact ⟨a, kv, h0, e _ _ h1, Paired.mapP h2 fun p q z => ⟨z.1, Dp.mono e _ _ z.2⟩⟩
  | nt ds => exact NtAt.mono e h
  | prn ds b => exact PrnAt.mono e h
theorem Is.mono (r : m.R H H') (h : Is m K H v d) : Is m K H' v d := by
  cases hd : d.fix with
  | true => exact h.same r.ex hd
  | false =>
    cases d with
    | rl xs =>
      obtain ⟨a, ws, h0, h1, h2⟩ := h
      refine ⟨a, ws, h0, ?_, DpAll.mono r.ex _ _ h2⟩
      rcases h1 with h1 | ⟨h1, h3⟩
      · exact .inl (sqL_mono r.ex h1)
      · exact .inr ⟨h1, by rw [R.lo r h1]; exact h3⟩
    | _ => cases hd
theorem Is.w {ps : List Addr} (r : m.W ps H H') (h : Is m K H v d) (hd : d.fix = true := by rfl) : Is m K H' v d := h.same r.ex hd
/-- into a mode that hides a new object -/
theorem Is.hide {p : Addr} {o : HO} (k : m.ok H) (hp : H p = none) (h : Is m K H v d) : Is (m.hide p) K (upd H p o) v d := by
  have e : Same (m.vw H) ((m.hide p).vw (upd H p o)) := hide_vw k hp
  cases d with
  | d x => exact Dp.mono e _ _ h
  | tl xs =>
    obtain ⟨a, ws, h0, h1, h2⟩ := h
    exact ⟨a, ws, h0, e _ _ h1, DpAll.mono e _ _ h2⟩
  | rl xs =>
    obtain ⟨a, ws, h0, h1, h2⟩ := h
    refine ⟨a, ws, h0, ?_, DpAll.mono e _ _ h2⟩
    rcases h1 with h1 | ⟨h1, h3⟩
    · exact .inl (sqL_mono e h1)
    · exact .inr ⟨List.mem_cons_of_mem _ h1, by rw [upd_ne (ne_of_none h3 hp)]; exact h3⟩
  | v x => exact h
  | web ms ts =>
    obtain ⟨a, dx, fs, p, q, h0, h1, h2, h3, h4, h5⟩ := h
    exact ⟨a, dx, fs, p, q, h0, e _ _ h1, h2, h3, Dp.mono e _ _ h4, Dp.mono e _ _ h5⟩
  | uns n nx => exact UnsAt.mono e h
  | kpr n nx => exact KprAt.mono e h
  | hand => exact h
  | dct kvs =>
    obtain ⟨a, kv, h0, h1, h2⟩ := h
    exact ⟨a, kv, h0, e _ _ h1, Paired.mapP h2 fun p q z => ⟨z.1, Dp.mono e _ _ z.2⟩⟩
  | nt ds => exact NtAt.mono e h
  | prn ds b => exact PrnAt.mono e h
theorem Is.unhide {p : Addr} (h : Is (m.hide p) K H v d) (hd : d.fix = true := by rfl) : Is m K H v d := by
  have e : Same ((m.hide p).vw H) (m.vw H) := unhide_vw
  cases d with
  | d x => exact Dp.mono e _ _ h
  | tl xs =>
    obtain ⟨a, ws, h0, h1, h2⟩ := h
    exact ⟨a, ws, h0, e _ _ h1, DpAll.mono e _ _ h2⟩
  | rl xs => cases hd
  | v x => exact h
  | web ms ts =>
    obtain ⟨a, dx, fs, p, q, h0, h1, h2, h3, h4, h5⟩ := h
    exact ⟨a, dx, fs, p, q, h0, e _ _ h1, h2, h3, Dp.mono e _ _ h4, Dp.mono e _ _ h5⟩
  | uns n nx => exact UnsAt.mono e h
  | kpr n nx => exact KprAt.mono e h
  | hand => exact h
  | dct kvs =>
    obtain ⟨a, kv, h0, h1, h2⟩ := h
    exact ⟨a, kv, h0, e _ _ h1, Paired.mapP h2 fun p q z => ⟨z.1, Dp.mono e _ _ z.2⟩⟩
  | nt ds => exact NtAt.mono e h
  | prn ds b => exact PrnAt.mono e h
theorem IsAll.mono (r : m.R H H') : ∀ {vs : List V} {ds : List Dx}, IsAll m K H vs ds → IsAll m K H' vs ds
  | [], [], _ => True.intro
  | _ :: _, _ :: _, h => ⟨Is.mono r h.1, IsAll.mono r h.2⟩
  | [], _ :: _, h => h.elim
  | _ :: _, [], h => h.elim
theorem isAll0 (h : IsAll m K H vs []) : vs = [] := by
  cases vs with
  | nil => rfl
  | cons => exact False.elim h
theorem isAllC {ds : List Dx} (h : IsAll m K H vs (d :: ds)) : ∃ x xs, vs = x :: xs ∧ Is m K H x d ∧ IsAll m K H xs ds := by
  cases vs with
  | nil => exact False.elim h
  | cons x xs => exact ⟨x, xs, rfl, h.1, h.2⟩
variable {d1 d2 d3 d4 d5 d6 : Dx}
theorem isAll1 (h : IsAll m K H vs [d1]) : ∃ v1, vs = [v1] ∧ Is m K H v1 d1 := by
  obtain ⟨x, xs, rfl, h1, h2⟩ := isAllC h
  rw [isAll0 h2]
  exact ⟨x, rfl, h1⟩
theorem isAll2 (h : IsAll m K H vs [d1, d2]) : ∃ v1 v2, vs = [v1, v2] ∧ Is m K H v1 d1 ∧ Is m K H v2 d2 := by
  obtain ⟨x, xs, rfl, h1, h2⟩ := isAllC h
  obtain ⟨y, rfl, h3⟩ := isAll1 h2
  exact ⟨x, y, rfl, h1, h3⟩
theorem isAll3 (h : IsAll m K H vs [d1, d2, d3]) : ∃ v1 v2 v3, vs = [v1, v2, v3] ∧ Is m K H v1 d1 ∧ Is m K H v2 d2 ∧ Is m K H v3 d3 := by
  obtain ⟨x, xs, rfl, h1, h2⟩ := isAllC h
  obtain ⟨y, z, rfl, h3, h4⟩ := isAll2 h2
  exact ⟨x, y, z, rfl, h1, h3, h4⟩
theorem isAll4 (h : IsAll m K H vs [d1, d2, d3, d4]) : ∃ v1 v2 v3 v4, vs = [v1, v2, v3, v4] ∧ Is m K H v1 d1 ∧ Is m K H v2 d2 ∧ Is m K H v3 d3 ∧ Is m K H v4 d4 := by
  obtain ⟨x, xs, rfl, h1, h2⟩ := isAllC h
  obtain ⟨y, z, w, rfl, h3, h4, h5⟩ := isAll3 h2
  exact ⟨x, y, z, w, rfl, h1, h3, h4, h5⟩
theorem isAll5 (h : IsAll m K H vs [d1, d2, d3, d4, d5]) : ∃ v1 v2 v3 v4 v5, vs = [v1, v2, v3, v4, v5] ∧ Is m K H v1 d1 ∧ Is m K H v2 d2 ∧ Is m K H v3 d3 ∧ Is m K H v4 d4 ∧ Is m K H v5 d5 := by
  obtain ⟨x, xs, rfl, h1, h2⟩ := isAllC h
  obtain ⟨y, z, w, u, rfl, h3, h4, h5, h6⟩ := isAll4 h2
  exact ⟨x, y, z, w, u, rfl, h1, h3, h4, h5, h6⟩
theorem isAll6 (h : IsAll m K H vs [d1, d2, d3, d4, d5, d6]) : ∃ v1 v2 v3 v4 v5 v6, vs = [v1, v2, v3, v4, v5, v6] ∧ Is m K H v1 d1 ∧ Is m K H v2 d2 ∧ Is m K H v3 d3 ∧ Is m K H v4 d4 ∧ Is m K H v5 d5 ∧ Is m K H v6 d6 := by
  obtain ⟨x, xs, rfl, h1, h2⟩ := isAllC h
  obtain ⟨y, z, w, u, t, rfl, h3, h4, h5, h6, h7⟩ := isAll5 h2
  exact ⟨x, y, z, w, u, t, rfl, h1, h3, h4, h5, h6, h7⟩
theorem isAll_len : ∀ {vs : List V} {ds : List Dx}, IsAll m K H vs ds → vs.length = ds.length
  | [], [], _ => rfl
  | _ :: vs, _ :: ds, h => by rw [List.length_cons, List.length_cons, isAll_len h.2]
  | [], _ :: _, h => h.elim
  | _ :: _, [], h => h.elim
/-- data alone -/
theorem isAll_dp : ∀ {vs : List V} {ds : List PyData}, IsAll m K H vs (ds.map .d) → DpAll K (m.vw H) vs ds
  | [], [], _ => .nil
  | _ :: _, _ :: _, h => .cons h.1 (isAll_dp h.2)
  | [], _ :: _, h => h.elim
  | _ :: _, [], h => h.elim
theorem Is.rl_of_d {xs : List PyData} (h : Is m K H v (.d (.list xs))) : Is m K H v (.rl xs) := by
  obtain ⟨a, ws, rfl, h1, h2⟩ := dp_lst h
  exact ⟨a, ws, rfl, .inl h1, h2⟩
theorem Is.rl_of_tl {xs : List PyData} (h : Is m K H v (.tl xs)) : Is m K H v (.rl xs) := by
  obtain ⟨a, ws, rfl, h1, h2⟩ := h
  exact ⟨a, ws, rfl, .inl (SqL.of h1), h2⟩
theorem Is.rl_of_lo {xs : List PyData} {p : Addr} {ws : List V} (h : H p = some (.lst ws)) (hp : p ∈ m.lo) (h2 : DpAll K (m.vw H) ws xs) : Is m K H (.ref p) (.rl xs) := ⟨p, ws, rfl, .inr ⟨hp, h⟩, h2⟩
theorem rl_at {xs : List PyData} (h : Is m K H v (.rl xs)) : ∃ a ws, v = .ref a ∧ SqL K H a ws ∧ DpAll K (m.vw H) ws xs := by
  obtain ⟨a, ws, h0, h1, h2⟩ := h
  refine ⟨a, ws, h0, ?_, h2⟩
  rcases h1 with h1 | ⟨_, h1⟩
  · exact sqL_mono vw_same h1
  · exact SqL.of h1
theorem Is.d_of_nt {xs : List PyData} (h : Is m K H v (.nt xs)) : Is m K H v (.d (.tuple xs)) := by
  obtain ⟨a, o, ws, rfl, h1, h2, h3⟩ := h
  exact .tup (.inl (.inr ⟨o, h1⟩)) h3
theorem Is.d_of_tl {xs : List PyData} (h : Is m K H v (.tl xs)) : Is m K H v (.d (.list xs)) := by
  obtain ⟨a, ws, rfl, h1, h2⟩ := h
  exact .lst (SqL.of h1) h2
end
/-! ### what a reading evaluates to -/
def EvS (m : Md) (K : PySem.W.Frag) (te : TE) (σ : L2.St) (H : Hp) (S : Dx → Prop) : Prop := ∀ H1, m.R H H1 → ∀ Q : VK, (∀ r v H2, m.R H1 H2 → S r → Is m K H2 v r → Q v H2) → te σ H1 Q
def EvD (m : Md) (K : PySem.W.Frag) (te : TE) (σ : L2.St) (H : Hp) (r : Dx) : Prop := ∀ H1, m.R H H1 → ∀ Q : VK, (∀ v H2, m.R H1 H2 → Is m K H2 v r → Q v H2) → te σ H1 Q
def EvT (m : Md) (tt : TT) (σ : L2.St) (H : Hp) (b : Bool) : Prop := ∀ H1, m.R H H1 → ∀ Q : Bool → Hp → Prop, (∀ H2, m.R H1 H2 → Q b H2) → tt σ H1 Q
def EvA (m : Md) (K : PySem.W.Frag) (ta : TA) (σ : L2.St) (H : Hp) (ds : List Dx) : Prop := ∀ H1, m.R H H1 → ∀ Q : List V → Hp → Prop, (∀ vs H2, m.R H1 H2 → IsAll m K H2 vs ds → Q vs H2) → ta σ H1 Q
def EvO (m : Md) (to : TO) (σ : L2.St) (H : Hp) (o : Option Int) : Prop := ∀ H1, m.R H H1 → ∀ Q : Option Int → Hp → Prop, (∀ H2, m.R H1 H2 → Q o H2) → to σ H1 Q
section
variable {m : Md} {K : PySem.W.Frag} {σ : L2.St} {H H' : Hp} {ta tb te tx : TE} {t u : TT} {x y z v : V} {r r1 r2 : Dx} {a b c : PyData}
theorem EvD.mono (e : m.R H H') (h : EvD m K te σ H r) : EvD m K te σ H' r := fun H1 a Q q => h H1 (R.trans e a) Q q
theorem EvS.mono {S : Dx → Prop} (e : m.R H H') (h : EvS m K te σ H S) : EvS m K te σ H' S := fun H1 a Q q => h H1 (R.trans e a) Q q
theorem EvT.mono {b : Bool} (e : m.R H H') (h : EvT m t σ H b) : EvT m t σ H' b := fun H1 a Q q => h H1 (R.trans e a) Q q
theorem EvD.s {S : Dx → Prop} (h : EvD m K te σ H r) (hs : S r) : EvS m K te σ H S := fun H1 a Q q => h H1 a Q fun v H2 e2 i => q r v H2 e2 hs i
theorem EvD.is (h : EvD m K te σ H r) (e : r = r1) : EvD m K te σ H r1 := by
  rw [← e]
  exact h
theorem EvT.is {b c : Bool} (h : EvT m t σ H b) (e : b = c) : EvT m t σ H c := by
  rw [← e]
  exact h
theorem ev_tl {xs : List PyData} (h : EvD m K te σ H (.tl xs)) : EvD m K te σ H (.d (.list xs)) := fun H1 e Q q => h H1 e Q fun v H2 e2 i => q v H2 e2 i.d_of_tl
theorem ev_tlr {xs : List PyData} (h : EvD m K te σ H (.tl xs)) : EvD m K te σ H (.rl xs) := fun H1 e Q q => h H1 e Q fun v H2 e2 i => q v H2 e2 i.rl_of_tl
theorem ev_dlr {xs : List PyData} (h : EvD m K te σ H (.d (.list xs))) : EvD m K te σ H (.rl xs) := fun H1 e Q q => h H1 e Q fun v H2 e2 i => q v H2 e2 i.rl_of_d
theorem ev_var {i : Nat} (h : σ[i]? = some (some v)) (hi : Is m K H v r) : EvD m K (tVar i) σ H r := fun H1 e _ q => ⟨v, h, q v H1 (R.refl e.ok) (hi.mono e)⟩
theorem ev_c {v : V} (hi : ∀ H, Is m K H v r) : EvD m K (tC v) σ H r := fun H1 e _ q => q v H1 (R.refl e.ok) (hi H1)
theorem ev_int {i : Int} : EvD m K (tC (.int i)) σ H (.d (.int i)) := ev_c fun _ => .int i
theorem ev_str {i : Str} : EvD m K (tC (.str i)) σ H (.d (.str i)) := ev_c fun _ => .str i
theorem ev_bl {i : Bool} : EvD m K (tC (.bl i)) σ H (.d (.bool i)) := ev_c fun _ => .bl i
theorem ev_non : EvD m K (tC .non) σ H (.d .none) := ev_c fun _ => .non
/-- two operands, any result -/
theorem ev_opG {R2' : R2} (ha : EvD m K ta σ H r1) (hb : EvD m K tb σ H r2) (hr : ∀ x y H1, m.R H H1 → Is m K H1 x r1 → Is m K H1 y r2 → ∀ Q : VK, (∀ v H2, m.R H1 H2 → Is m K H2 v r → Q v H2) → R2' x y H1 Q) : EvD m K (tOp R2' ta tb) σ H r :=
  fun H1 e Q q => ha H1 e _ fun x H2 e2 i2 => hb H2 (R.trans e e2) _ fun y H3 e3 i3 => hr x y H3 (R.trans (R.trans e e2) e3) (i2.mono e3) i3 Q fun v H4 e4 i4 => q v H4 (R.trans (R.trans e2 e3) e4) i4
theorem ev_unG {U : V → Hp → VK → Prop} (ha : EvD m K ta σ H r1) (hr : ∀ x H1, m.R H H1 → Is m K H1 x r1 → ∀ Q : VK, (∀ v H2, m.R H1 H2 → Is m K H2 v r → Q v H2) → U x H1 Q) : EvD m K (tUn U ta) σ H r :=
  fun H1 e Q q => ha H1 e _ fun x H2 e2 i2 => hr x H2 (R.trans e e2) i2 Q fun v H4 e4 i4 => q v H4 (R.trans e2 e4) i4
theorem ev_i0 {g : Int → Int → V} {i j : Int} (ha : EvD m K ta σ H (.d (.int i))) (hb : EvD m K tb σ H (.d (.int j))) (hg : ∀ H, Dp K H (g i j) c) : EvD m K (tOp (rI0 g) ta tb) σ H (.d c) :=
  ev_opG ha hb fun x y H1 e i1 i2 Q q => by
    rw [dp_int i1, dp_int i2]
    exact ⟨i, j, rfl, rfl, q _ H1 (R.refl e.ok) (hg _)⟩
theorem ev_i {C : Int → Int → Prop} {g : Int → Int → V} {i j : Int} (ha : EvD m K ta σ H (.d (.int i))) (hb : EvD m K tb σ H (.d (.int j))) (hc : C i j) (hg : ∀ H, Dp K H (g i j) c) : EvD m K (tOp (rI C g) ta tb) σ H (.d c) :=
  ev_opG ha hb fun x y H1 e i1 i2 Q q => by
    rw [dp_int i1, dp_int i2]
    exact ⟨i, j, rfl, rfl, hc, q _ H1 (R.refl e.ok) (hg _)⟩
/-- a + b, a - b, a < b ..: the answer an int, a bool -/
theorem ev_ii {g : Int → Int → Int} {i j : Int} (ha : EvD m K ta σ H (.d (.int i))) (hb : EvD m K tb σ H (.d (.int j))) : EvD m K (tOp (rI0 fun i j => .int (g i j)) ta tb) σ H (.d (.int (g i j))) := ev_i0 ha hb fun _ => .int _
theorem ev_ib {g : Int → Int → Bool} {i j : Int} (ha : EvD m K ta σ H (.d (.int i))) (hb : EvD m K tb σ H (.d (.int j))) : EvD m K (tOp (rI0 fun i j => .bl (g i j)) ta tb) σ H (.d (.bool (g i j))) := ev_i0 ha hb fun _ => .bl _
theorem ev_iC {C : Int → Int → Prop} {g : Int → Int → Int} {i j : Int} (ha : EvD m K ta σ H (.d (.int i))) (hb : EvD m K tb σ H (.d (.int j))) (hc : C i j) : EvD m K (tOp (rI C fun i j => .int (g i j)) ta tb) σ H (.d (.int (g i j))) := ev_i ha hb hc fun _ => .int _
theorem ev_neg {i : Int} (ha : EvD m K ta σ H (.d (.int i))) : EvD m K (tUn (rU fun i => .int (-i)) ta) σ H (.d (.int (-i))) := ev_unG ha fun x H1 e i1 Q q => by
  rw [dp_int i1]
  exact ⟨i, rfl, q _ H1 (R.refl e.ok) (.int _)⟩
theorem ev_eqI {i j : Int} (ha : EvD m K ta σ H (.d (.int i))) (hb : EvD m K tb σ H (.d (.int j))) : EvD m K (tOp rEq ta tb) σ H (.d (.bool (decide (i = j)))) := ev_opG ha hb fun x y H1 e i1 i2 Q q => by
  rw [dp_int i1, dp_int i2]
  have e1 : decide (V.int i = V.int j) = decide (i = j) := by rw [dec_int, Bool.beq_eq_decide_eq]
  refine ⟨rfl, ?_⟩
  rw [e1]
  exact q _ H1 (R.refl e.ok) (.bl _)
theorem ev_neI {i j : Int} (ha : EvD m K ta σ H (.d (.int i))) (hb : EvD m K tb σ H (.d (.int j))) : EvD m K (tOp rNe ta tb) σ H (.d (.bool (!decide (i = j)))) := ev_opG ha hb fun x y H1 e i1 i2 Q q => by
  rw [dp_int i1, dp_int i2]
  have e1 : decide (V.int i = V.int j) = decide (i = j) := by rw [dec_int, Bool.beq_eq_decide_eq]
  refine ⟨rfl, ?_⟩
  rw [e1]
  exact q _ H1 (R.refl e.ok) (.bl _)
theorem ev_eqS {i j : Str} (ha : EvD m K ta σ H (.d (.str i))) (hb : EvD m K tb σ H (.d (.str j))) : EvD m K (tOp rEq ta tb) σ H (.d (.bool (decide (i = j)))) := ev_opG ha hb fun x y H1 e i1 i2 Q q => by
  rw [dp_str i1, dp_str i2]
  have e1 : decide (V.str i = V.str j) = decide (i = j) := by rw [dec_str, Bool.beq_eq_decide_eq]
  refine ⟨rfl, ?_⟩
  rw [e1]
  exact q _ H1 (R.refl e.ok) (.bl _)
theorem ev_neS {i j : Str} (ha : EvD m K ta σ H (.d (.str i))) (hb : EvD m K tb σ H (.d (.str j))) : EvD m K (tOp rNe ta tb) σ H (.d (.bool (!decide (i = j)))) := ev_opG ha hb fun x y H1 e i1 i2 Q q => by
  rw [dp_str i1, dp_str i2]
  have e1 : decide (V.str i = V.str j) = decide (i = j) := by rw [dec_str, Bool.beq_eq_decide_eq]
  refine ⟨rfl, ?_⟩
  rw [e1]
  exact q _ H1 (R.refl e.ok) (.bl _)
theorem ev_neB {i j : Bool} (ha : EvD m K ta σ H (.d (.bool i))) (hb : EvD m K tb σ H (.d (.bool j))) : EvD m K (tOp rNe ta tb) σ H (.d (.bool (!decide (i = j)))) := ev_opG ha hb fun x y H1 e i1 i2 Q q => by
  rw [dp_bl i1, dp_bl i2]
  have e1 : decide (V.bl i = V.bl j) = decide (i = j) := by rw [dec_bl, Bool.beq_eq_decide_eq]
  refine ⟨rfl, ?_⟩
  rw [e1]
  exact q _ H1 (R.refl e.ok) (.bl _)
def isNon : PyData → Bool
  | .none => true
  | _ => false
theorem isNon_dp {H : Hp} {x : V} {d : PyData} (h : Dp K H x d) : decide (x = .non) = isNon d := by
  cases h <;> rfl
def rIsN : R2 := fun x y H Q => y = .non ∧ Q (.bl (decide (x = .non))) H
def rNotN : R2 := fun x y H Q => y = .non ∧ Q (.bl (!decide (x = .non))) H
theorem ev_isN (ha : EvD m K ta σ H (.d a)) : EvD m K (tOp rIsN ta (tC .non)) σ H (.d (.bool (isNon a))) := ev_opG ha ev_non fun x y H1 e i1 i2 Q q => by
  rw [dp_non i2]
  refine ⟨rfl, ?_⟩
  rw [isNon_dp i1]
  exact q _ H1 (R.refl e.ok) (.bl _)
theorem ev_notN (ha : EvD m K ta σ H (.d a)) : EvD m K (tOp rNotN ta (tC .non)) σ H (.d (.bool (!isNon a))) := ev_opG ha ev_non fun x y H1 e i1 i2 Q q => by
  rw [dp_non i2]
  refine ⟨rfl, ?_⟩
  rw [isNon_dp i1]
  exact q _ H1 (R.refl e.ok) (.bl _)
theorem ev_eqD (ha : EvD m K ta σ H (.d a)) (hb : EvD m K tb σ H (.d b)) (s1 : SeqAt.shaped a = true) (s2 : SeqAt.shaped b = true) : EvD m K (tOp (rEqD K) ta tb) σ H (.d (.bool (PyData.eqv a b))) := ev_opG ha hb fun x y H1 e i1 i2 Q q =>
  ⟨a, b, Dp.mono vw_same _ _ i1, Dp.mono vw_same _ _ i2, s1, s2, q _ H1 (R.refl e.ok) (.bl _)⟩
theorem ev_neD (ha : EvD m K ta σ H (.d a)) (hb : EvD m K tb σ H (.d b)) (s1 : SeqAt.shaped a = true) (s2 : SeqAt.shaped b = true) : EvD m K (tOp (rNeD K) ta tb) σ H (.d (.bool (!PyData.eqv a b))) := ev_opG ha hb fun x y H1 e i1 i2 Q q =>
  ⟨a, b, Dp.mono vw_same _ _ i1, Dp.mono vw_same _ _ i2, s1, s2, q _ H1 (R.refl e.ok) (.bl _)⟩
/-! arguments, displays -/
theorem ea_nil : EvA m K tNil σ H [] := fun H1 e _ q => q [] H1 (R.refl e.ok) True.intro
theorem ea_cons {tr : TA} {ds : List Dx} (h : EvD m K ta σ H r) (hr : EvA m K tr σ H ds) : EvA m K (tCons ta tr) σ H (r :: ds) := fun H1 e _ q =>
  h H1 e _ fun v H2 e2 i2 => hr H2 (R.trans e e2) _ fun vs H3 e3 i3 => q (v :: vs) H3 (R.trans e2 e3) ⟨i2.mono e3, i3⟩
theorem vw_upd {p : Addr} {o : HO} (k : m.ok H) (h : H p = none) (ht : isTbl o = false) : m.vw (upd H p o) p = some o := see k h upd_same ht
theorem ev_tup {tA : TA} {ds : List PyData} (h : EvA m K tA σ H (ds.map .d)) (hl : ds.length ≤ 100000 := by first | decide | simp) : EvD m K (tTup tA) σ H (.d (.tuple ds)) := fun H1 e Q q =>
  h H1 e _ fun vs H2 e2 i2 => ⟨by rw [isAll_len i2, List.length_map]; exact Evl.sz_of hl, fun p hp => by
    have r2 : m.R H2 (upd H2 p (.tup vs)) := R.new e2.ok hp
    exact q _ _ (R.trans e2 r2) (.tup (SqT.of (vw_upd e2.ok hp rfl)) (DpAll.mono r2.ex _ _ (isAll_dp i2)))⟩
theorem ev_lst {tA : TA} {ds : List PyData} (h : EvA m K tA σ H (ds.map .d)) (hl : ds.length ≤ 100000 := by first | decide | simp) : EvD m K (tLst tA) σ H (.tl ds) := fun H1 e Q q =>
  h H1 e _ fun vs H2 e2 i2 => ⟨by rw [isAll_len i2, List.length_map]; exact Evl.sz_of hl, fun p hp => by
    have r2 : m.R H2 (upd H2 p (.lst vs)) := R.new e2.ok hp
    exact q _ _ (R.trans e2 r2) ⟨p, vs, rfl, vw_upd e2.ok hp rfl, DpAll.mono r2.ex _ _ (isAll_dp i2)⟩⟩
/-! items, slices -/
theorem atI_dp {H : Hp} {xs : List V} {ds : List PyData} {i : Int} {d : PyData} (h : DpAll K H xs ds) (e : atI ds i = some d) : ∃ v, atI xs i = some v ∧ Dp K H v d := by
  unfold atI at e ⊢
  rw [dpAll_len h]
  cases q : ixN ds.length i with
  | none =>
    rw [q] at e
    cases e
  | some j =>
    rw [q] at e
    exact dpAll_at h e
theorem ev_ixT {ds : List PyData} {i : Int} (ha : EvD m K ta σ H (.d (.tuple ds))) (hb : EvD m K tb σ H (.d (.int i))) (e : atI ds i = some a) : EvD m K (tOp (rIxT K) ta tb) σ H (.d a) := ev_opG ha hb fun x y H1 r1 i1 i2 Q q => by
  obtain ⟨p, xs, rfl, h1, h2⟩ := dp_tup i1
  obtain ⟨v, h3, h4⟩ := atI_dp h2 e
  rw [dp_int i2]
  exact ⟨p, xs, i, v, rfl, rfl, sqT_mono vw_same h1, h3, q v H1 (R.refl r1.ok) h4⟩
theorem ev_ixL {ds : List PyData} {i : Int} (ha : EvD m K ta σ H (.rl ds)) (hb : EvD m K tb σ H (.d (.int i))) (e : atI ds i = some a) : EvD m K (tOp (rIxL K) ta tb) σ H (.d a) := ev_opG ha hb fun x y H1 r1 i1 i2 Q q => by
  obtain ⟨p, xs, rfl, h1, h2⟩ := rl_at i1
  obtain ⟨v, h3, h4⟩ := atI_dp h2 e
  rw [dp_int i2]
  exact ⟨p, xs, i, v, rfl, rfl, h1, h3, q v H1 (R.refl r1.ok) h4⟩
theorem eo_none : EvO m tNoPart σ H none := fun H1 e _ q => q H1 (R.refl e.ok)
theorem eo_some {i : Int} (h : EvD m K te σ H (.d (.int i))) : EvO m (tPart te) σ H (some i) := fun H1 e _ q => h H1 e _ fun v H2 e2 i2 => ⟨i, dp_int i2, q H2 e2⟩
def cutD (xs : List PyData) (lo hi : Option Int) : List PyData := (xs.drop (HT.sIx xs.length 0 lo)).take (HT.sIx xs.length xs.length hi - HT.sIx xs.length 0 lo)
theorem cut_dp {H : Hp} {xs : List V} {ds : List PyData} (lo hi : Option Int) (h : DpAll K H xs ds) : DpAll K H (cutV xs lo hi) (cutD ds lo hi) := by
  unfold cutV cutD
  rw [dpAll_len h]
  exact dpAll_take _ (dpAll_drop _ h)
end
end K20
end
section
set_option linter.all false
set_option maxRecDepth 100000
set_option maxHeartbeats 2000000
set_option autoImplicit false
namespace K20
open PySem PySem.Spec PyProof.Rows L2 LamX NdefX
section
variable {m : Md} {K : PySem.W.Frag} {σ : L2.St} {H H' : Hp} {ta tb te tx : TE} {t u : TT} {x y z v : V} {r r1 r2 : Dx} {a b c : PyData}
/-! tuples: slices, + -/
theorem ev_slT {tl th : TO} {ds : List PyData} {lo hi : Option Int} (h : EvD m K te σ H (.d (.tuple ds))) (h1 : EvO m tl σ H lo) (h2 : EvO m th σ H hi) : EvD m K (tSl (rSlA K) te tl th) σ H (.d (.tuple (cutD ds lo hi))) := fun H1 e Q q =>
  h H1 e _ fun v H2 e2 i2 => h1 H2 (R.trans e e2) _ fun H3 e3 => h2 H3 (R.trans (R.trans e e2) e3) _ fun H4 e4 => by
    obtain ⟨p, xs, rfl, g1, g2⟩ := dp_tup ((show Is m K H2 v (.d (.tuple ds)) from i2).mono (R.trans e3 e4))
    have e24 := R.trans (R.trans e2 e3) e4
    refine ⟨p, xs, rfl, sqT_mono vw_same g1, fun hw => q _ H4 e24 ?_, fun hw l hl => ?_⟩
    · have el := dpAll_len g2
      rw [el] at hw
      have ec : cutD ds lo hi = ds := by
        unfold cutD
        rw [hw.1, hw.2, List.drop_zero]
        exact List.take_of_length_le (by omega)
      rw [ec]
      exact .tup g1 g2
    · have r4 : m.R H4 (upd H4 l (.tup (cutV xs lo hi))) := R.new e4.ok hl
      exact q _ _ (R.trans e24 r4) (.tup (SqT.of (vw_upd e4.ok hl rfl)) (DpAll.mono r4.ex _ _ (cut_dp lo hi g2)))
theorem ev_slL {tl th : TO} {ds : List PyData} {lo hi : Option Int} (h : EvD m K te σ H (.rl ds)) (h1 : EvO m tl σ H lo) (h2 : EvO m th σ H hi) : EvD m K (tSl (rSlL K) te tl th) σ H (.tl (cutD ds lo hi)) := fun H1 e Q q =>
  h H1 e _ fun v H2 e2 i2 => h1 H2 (R.trans e e2) _ fun H3 e3 => h2 H3 (R.trans (R.trans e e2) e3) _ fun H4 e4 => by
    obtain ⟨p, xs, rfl, g1, g2⟩ := rl_at ((show Is m K H2 v (.rl ds) from i2).mono (R.trans e3 e4))
    have e24 := R.trans (R.trans e2 e3) e4
    refine ⟨p, xs, rfl, g1, fun l hl => ?_⟩
    have r4 : m.R H4 (upd H4 l (.lst (cutV xs lo hi))) := R.new e4.ok hl
    exact q _ _ (R.trans e24 r4) ⟨l, _, rfl, vw_upd e4.ok hl rfl, DpAll.mono r4.ex _ _ (cut_dp lo hi g2)⟩
theorem nil_iff {H : Hp} {xs : List V} {ds : List PyData} (h : DpAll K H xs ds) : xs = [] ↔ ds = [] := by
  cases h <;> simp
theorem ev_catT {ds es : List PyData} (ha : EvD m K ta σ H (.d (.tuple ds))) (hb : EvD m K tb σ H (.d (.tuple es))) (hl : ds.length + es.length ≤ 100000) : EvD m K (tOp (rCatA K) ta tb) σ H (.d (.tuple (ds ++ es))) := ev_opG ha hb fun x y H1 e i1 i2 Q q => by
  obtain ⟨p, xs, rfl, g1, g2⟩ := dp_tup i1
  obtain ⟨p', ys, rfl, g3, g4⟩ := dp_tup i2
  refine ⟨p, p', xs, ys, rfl, rfl, sqT_mono vw_same g1, sqT_mono vw_same g3, by rw [dpAll_len g2, dpAll_len g4]; exact Evl.sz_of hl, fun h => q _ H1 (R.refl e.ok) ?_, fun _ h => q _ H1 (R.refl e.ok) ?_, fun _ _ l hl2 => ?_⟩
  · rw [(nil_iff g2).mp h]
    exact i2
  · rw [(nil_iff g4).mp h, List.append_nil]
    exact i1
  · have r1 : m.R H1 (upd H1 l (.tup (xs ++ ys))) := R.new e.ok hl2
    exact q _ _ r1 (.tup (SqT.of (vw_upd e.ok hl2 rfl)) (DpAll.mono r1.ex _ _ (dpAll_app g2 g4)))
theorem ev_catL {ds es : List PyData} (ha : EvD m K ta σ H (.tl ds)) (hb : EvD m K tb σ H (.tl es)) (hl : ds.length + es.length ≤ 100000) : EvD m K (tOp rCat ta tb) σ H (.tl (ds ++ es)) := ev_opG ha hb fun x y H1 e i1 i2 Q q => by
  obtain ⟨p, xs, rfl, g1, g2⟩ := i1
  obtain ⟨p', ys, rfl, g3, g4⟩ := i2
  refine ⟨p, p', xs, ys, rfl, rfl, vw_sub g1, vw_sub g3, by rw [dpAll_len g2, dpAll_len g4]; exact Evl.sz_of hl, fun l hl2 => ?_⟩
  have r1 : m.R H1 (upd H1 l (.lst (xs ++ ys))) := R.new e.ok hl2
  exact q _ _ r1 ⟨l, _, rfl, vw_upd e.ok hl2 rfl, DpAll.mono r1.ex _ _ (dpAll_app g2 g4)⟩
theorem flatten_singles {α : Type} (x : α) : ∀ n : Nat, (List.replicate n [x]).flatten = List.replicate n x
  | 0 => rfl
  | n + 1 => by rw [List.replicate_succ, List.flatten_cons, flatten_singles x n, List.replicate_succ]; rfl
/-- [x] * n -/
theorem ev_repL {n : Nat} (ha : EvD m K ta σ H (.tl [a])) (hb : EvD m K tb σ H (.d (.int (n : Int)))) (hn : n ≤ 100000) : EvD m K (tOp rRep ta tb) σ H (.tl (List.replicate n a)) := ev_opG ha hb fun x y H1 e i1 i2 Q q => by
  obtain ⟨p, xs, rfl, g1, g2⟩ := i1
  rw [dp_int i2]
  cases g2 with
  | cons gx gn =>
    rename_i xv xr
    cases gn
    refine ⟨p, (n : Int), [xv], rfl, rfl, vw_sub g1, by omega, by omega, by rw [List.length_singleton, Nat.one_mul, Int.toNat_natCast]; exact Evl.sz_of hn, fun l hl => ?_⟩
    rw [Int.toNat_natCast, flatten_singles]
    have r1 : m.R H1 (upd H1 l (.lst (List.replicate n xv))) := R.new e.ok hl
    exact q _ _ r1 ⟨l, _, rfl, vw_upd e.ok hl rfl, dpAll_rep (Dp.mono r1.ex _ _ gx) n⟩
/-! in -/
theorem flat_ints (ns : List Int) : (ns.map V.int).all flatV = true := by
  induction ns with
  | nil => rfl
  | cons n r ih => rw [List.map_cons, List.all_cons, ih]; rfl
theorem inV_ints (i : Int) (ns : List Int) : inV (.int i) (ns.map V.int) = decide (i ∈ ns) := by
  unfold inV
  induction ns with
  | nil => rfl
  | cons n r ih =>
    rw [List.map_cons, List.any_cons, ih]
    have e : eqV (.int n) (.int i) = decide (n = i) := by
      first
        | rfl
        | (show (n == i) = _; rw [Bool.beq_eq_decide_eq])
    rw [e]
    by_cases h : n = i
    · simp [h]
    · have h2 : ¬ i = n := fun z => h z.symm
      simp [h, h2]
theorem ev_inT {i : Int} {ns : List Int} (ha : EvD m K ta σ H (.d (.int i))) (hb : EvD m K tb σ H (.d (.tuple (ns.map .int)))) : EvD m K (tOp (rIn K false) ta tb) σ H (.d (.bool (decide (i ∈ ns)))) := ev_opG ha hb fun x y H1 e i1 i2 Q q => by
  obtain ⟨p, xs, rfl, g1, g2⟩ := dp_tup i2
  rw [dp_int i1]
  have ex := dpAll_ints g2
  subst ex
  refine ⟨p, _, rfl, .inr (sqT_mono vw_same g1), rfl, flat_ints ns, ?_⟩
  rw [if_neg Bool.false_ne_true, inV_ints]
  exact q _ H1 (R.refl e.ok) (.bl _)
theorem ev_inL {i : Int} {ns : List Int} (ha : EvD m K ta σ H (.d (.int i))) (hb : EvD m K tb σ H (.rl (ns.map .int))) : EvD m K (tOp (rIn K false) ta tb) σ H (.d (.bool (decide (i ∈ ns)))) := ev_opG ha hb fun x y H1 e i1 i2 Q q => by
  obtain ⟨p, xs, rfl, g1, g2⟩ := rl_at i2
  rw [dp_int i1]
  have ex := dpAll_ints g2
  subst ex
  refine ⟨p, _, rfl, .inl (g1), rfl, flat_ints ns, ?_⟩
  rw [if_neg Bool.false_ne_true, inV_ints]
  exact q _ H1 (R.refl e.ok) (.bl _)
/-- a text in a pair of texts -/
theorem ev_inS {s s1 s2 : Str} (ha : EvD m K ta σ H (.d (.str s))) (hb : EvD m K tb σ H (.d (.tuple [.str s1, .str s2]))) : EvD m K (tOp (rIn K false) ta tb) σ H (.d (.bool (decide (s = s1 ∨ s = s2)))) := ev_opG ha hb fun x y H1 e i1 i2 Q q => by
  obtain ⟨p, xs, rfl, g1, g2⟩ := dp_tup i2
  rw [dp_str i1]
  cases g2 with
  | cons h1 g2 => cases g2 with
    | cons h2 g2 =>
      cases g2
      rw [dp_str h1, dp_str h2] at g1
      refine ⟨p, _, rfl, .inr (sqT_mono vw_same g1), rfl, rfl, ?_⟩
      have ei : inV (.str s) [.str s1, .str s2] = decide (s = s1 ∨ s = s2) := by
        show (eqV (.str s1) (.str s) || (eqV (.str s2) (.str s) || false)) = _
        have e1 : ∀ w : Str, eqV (.str w) (.str s) = decide (w = s) := fun w => by
          first
            | rfl
            | (show (w == s) = _; rw [Bool.beq_eq_decide_eq])
        rw [e1, e1, Bool.or_false, Bool.decide_or, decide_eq_decide.mpr (eq_comm (a := s1)), decide_eq_decide.mpr (eq_comm (a := s2))]
      rw [if_neg Bool.false_ne_true, ei]
      exact q _ H1 (R.refl e.ok) (.bl _)
/-! tests -/
theorem et_test {b : Bool} (h : EvD m K te σ H (.d (.bool b))) : EvT m (tTest te) σ H b := fun H1 e _ q => h H1 e _ fun v H2 e2 i2 => ⟨b, dp_bl i2, q H2 e2⟩
theorem et_B {b : Bool} (h : EvD m K te σ H (.d (.bool b))) : EvT m (tB te) σ H b := fun H1 e _ q => h H1 e _ fun v H2 e2 i2 => ⟨b, dp_bl i2, q H2 e2⟩
theorem et_and {a b : Bool} (h1 : EvT m t σ H a) (h2 : a = true → EvT m u σ H b) : EvT m (tAnd t u) σ H (a && b) := fun H1 e Q q => h1 H1 e _ fun H2 e2 => by
  cases a with
  | true =>
    show u σ H2 Q
    exact h2 rfl H2 (R.trans e e2) Q fun H3 e3 => q H3 (R.trans e2 e3)
  | false => exact q H2 e2
theorem et_or {a b : Bool} (h1 : EvT m t σ H a) (h2 : a = false → EvT m u σ H b) : EvT m (tOr t u) σ H (a || b) := fun H1 e Q q => h1 H1 e _ fun H2 e2 => by
  cases a with
  | true => exact q H2 e2
  | false =>
    show u σ H2 Q
    exact h2 rfl H2 (R.trans e e2) Q fun H3 e3 => q H3 (R.trans e2 e3)
theorem et_not {a : Bool} (h1 : EvT m t σ H a) : EvT m (tNot t) σ H (!a) := fun H1 e _ q => h1 H1 e _ fun H2 e2 => q H2 e2
theorem ev_andV {a b : Bool} (h1 : EvD m K ta σ H (.d (.bool a))) (h2 : a = true → EvD m K tb σ H (.d (.bool b))) : EvD m K (tAndV ta tb) σ H (.d (.bool (a && b))) := fun H1 e Q q => h1 H1 e _ fun v H2 e2 i2 => ⟨a, dp_bl i2, by
  cases a with
  | true =>
    show tb σ H2 Q
    exact h2 rfl H2 (R.trans e e2) Q fun v H3 e3 i3 => q v H3 (R.trans e2 e3) i3
  | false => exact q _ H2 e2 (.bl _)⟩
theorem ev_orV {a b : Bool} (h1 : EvD m K ta σ H (.d (.bool a))) (h2 : a = false → EvD m K tb σ H (.d (.bool b))) : EvD m K (tOrV ta tb) σ H (.d (.bool (a || b))) := fun H1 e Q q => h1 H1 e _ fun v H2 e2 i2 => ⟨a, dp_bl i2, by
  cases a with
  | true => exact q _ H2 e2 (.bl _)
  | false =>
    show tb σ H2 Q
    exact h2 rfl H2 (R.trans e e2) Q fun v H3 e3 i3 => q v H3 (R.trans e2 e3) i3⟩
theorem ev_notV {a : Bool} (h1 : EvD m K ta σ H (.d (.bool a))) : EvD m K (tNotV ta) σ H (.d (.bool (!a))) := fun H1 e _ q => h1 H1 e _ fun v H2 e2 i2 => ⟨a, dp_bl i2, q _ H2 e2 (.bl _)⟩
theorem ev_if {b : Bool} (h : EvT m t σ H b) (h1 : b = true → EvD m K ta σ H r) (h2 : b = false → EvD m K tb σ H r) : EvD m K (tIf t ta tb) σ H r := fun H1 e Q q => h H1 e _ fun H2 e2 => by
  cases b with
  | true =>
    show ta σ H2 Q
    exact h1 rfl H2 (R.trans e e2) Q fun v H3 e3 i3 => q v H3 (R.trans e2 e3) i3
  | false =>
    show tb σ H2 Q
    exact h2 rfl H2 (R.trans e e2) Q fun v H3 e3 i3 => q v H3 (R.trans e2 e3) i3
/-- a < b < c -/
theorem ev_chain {g g' : Int → Int → Bool} {i j k : Int} (ha : EvD m K ta σ H (.d (.int i))) (hb : EvD m K tb σ H (.d (.int j))) (hc : EvD m K te σ H (.d (.int k))) :
    EvD m K (tChain (rI0 fun i j => .bl (g i j)) (rI0 fun i j => .bl (g' i j)) ta tb te) σ H (.d (.bool (g i j && g' j k))) := fun H1 e Q q =>
  ha H1 e _ fun x H2 e2 i2 => hb H2 (R.trans e e2) _ fun y H3 e3 i3 => by
    have e13 := R.trans e2 e3
    have ex : x = .int i := dp_int (i2 : Dp K (m.vw H2) x (.int i))
    have ey : y = .int j := dp_int (i3 : Dp K (m.vw H3) y (.int j))
    refine ⟨i, j, ex, ey, g i j, rfl, ?_⟩
    cases hg : g i j with
    | true =>
      show te σ H3 _
      refine hc H3 (R.trans e e13) _ fun z H4 e4 i4 => ?_
      refine ⟨j, k, ey, dp_int (i4 : Dp K (m.vw H4) z (.int k)), ?_⟩
      refine q _ H4 (R.trans e13 e4) ?_
      rw [hg, Bool.true_and]
      exact .bl _
    | false =>
      show Q (.bl false) H3
      refine q _ H3 e13 ?_
      rw [hg, Bool.false_and]
      exact .bl _
theorem et_chain {g g' : Int → Int → Bool} {i j k : Int} (ha : EvD m K ta σ H (.d (.int i))) (hb : EvD m K tb σ H (.d (.int j))) (hc : EvD m K te σ H (.d (.int k))) :
    EvT m (tTest (tChain (rI0 fun i j => .bl (g i j)) (rI0 fun i j => .bl (g' i j)) ta tb te)) σ H (g i j && g' j k) := et_test (ev_chain ha hb hc)
/-! fields of a web -/
theorem ev_mems {ms : List Nat} {ts : List (Nat × Nat)} (h : EvD m K te σ H (.web ms ts)) (c : Cls K (He.ga K "Web")) (n : NoAttr K (He.ga K "Web") "memories") : EvD m K (tFld K te "memories") σ H (.d (dNats ms)) := fun H1 e Q q => h H1 e _ fun v H2 e2 i2 => by
  obtain ⟨a, dx, fs, p, w, rfl, h1, h2, h3, h4, h5⟩ := i2
  exact ⟨a, _, dx, fs, p, rfl, vw_sub h1, c, n, h2, q p H2 e2 h4⟩
theorem ev_ties {ms : List Nat} {ts : List (Nat × Nat)} (h : EvD m K te σ H (.web ms ts)) (c : Cls K (He.ga K "Web")) (n : NoAttr K (He.ga K "Web") "ties") : EvD m K (tFld K te "ties") σ H (.d (dPairs ts)) := fun H1 e Q q => h H1 e _ fun v H2 e2 i2 => by
  obtain ⟨a, dx, fs, p, w, rfl, h1, h2, h3, h4, h5⟩ := i2
  exact ⟨a, _, dx, fs, w, rfl, vw_sub h1, c, n, h3, q w H2 e2 h5⟩
/-! built-ins -/
theorem ev_cb {R' : List V → Hp → VK → Prop} {tA : TA} {ds : List Dx} (h : EvA m K tA σ H ds) (hr : ∀ H1 vs, m.R H H1 → IsAll m K H1 vs ds → ∀ Q : VK, (∀ v H2, m.R H1 H2 → Is m K H2 v r → Q v H2) → R' vs H1 Q) : EvD m K (tCB R' tA) σ H r := fun H1 e Q q =>
  h H1 e _ fun vs H2 e2 i2 => hr H2 vs (R.trans e e2) i2 Q fun v H3 e3 i3 => q v H3 (R.trans e2 e3) i3
def rLenS (K : PySem.W.Frag) : List V → Hp → VK → Prop := fun xs H Q => ∃ p ys, xs = [.ref p] ∧ (SqL K H p ys ∨ SqT K H p ys) ∧ Q (.int ys.length) H
theorem ev_lenT {ds : List PyData} (h : EvD m K te σ H (.d (.tuple ds))) : EvD m K (tCB (rLenS K) (tCons te tNil)) σ H (.d (.int (ds.length : Int))) := ev_cb (ea_cons h ea_nil) fun H1 vs e i Q q => by
  obtain ⟨v, rfl, i1⟩ := isAll1 i
  obtain ⟨p, xs, rfl, g1, g2⟩ := dp_tup i1
  refine ⟨p, xs, rfl, .inr (sqT_mono vw_same g1), ?_⟩
  rw [dpAll_len g2]
  exact q _ H1 (R.refl e.ok) (.int _)
theorem ev_lenL {ds : List PyData} (h : EvD m K te σ H (.rl ds)) : EvD m K (tCB (rLenS K) (tCons te tNil)) σ H (.d (.int (ds.length : Int))) := ev_cb (ea_cons h ea_nil) fun H1 vs e i Q q => by
  obtain ⟨v, rfl, i1⟩ := isAll1 i
  obtain ⟨p, xs, rfl, g1, g2⟩ := rl_at i1
  refine ⟨p, xs, rfl, .inl (g1), ?_⟩
  rw [dpAll_len g2]
  exact q _ H1 (R.refl e.ok) (.int _)
def rI1 (g : Int → Int) : List V → Hp → VK → Prop := fun xs H Q => ∃ i, xs = [.int i] ∧ Q (.int (g i)) H
def rI2 (g : Int → Int → Int) : List V → Hp → VK → Prop := fun xs H Q => ∃ i j, xs = [.int i, .int j] ∧ Q (.int (g i j)) H
theorem ev_i1 {g : Int → Int} {i : Int} (h : EvD m K te σ H (.d (.int i))) : EvD m K (tCB (rI1 g) (tCons te tNil)) σ H (.d (.int (g i))) := ev_cb (ea_cons h ea_nil) fun H1 vs e j Q q => by
  obtain ⟨v, rfl, j1⟩ := isAll1 j
  rw [dp_int j1]
  exact ⟨i, rfl, q _ H1 (R.refl e.ok) (.int _)⟩
theorem ev_i2 {g : Int → Int → Int} {i j : Int} (h : EvD m K ta σ H (.d (.int i))) (h' : EvD m K tb σ H (.d (.int j))) : EvD m K (tCB (rI2 g) (tCons ta (tCons tb tNil))) σ H (.d (.int (g i j))) := ev_cb (ea_cons h (ea_cons h' ea_nil)) fun H1 vs e k Q q => by
  obtain ⟨v, w, rfl, k1, k2⟩ := isAll2 k
  rw [dp_int k1, dp_int k2]
  exact ⟨i, j, rfl, q _ H1 (R.refl e.ok) (.int _)⟩
abbrev rIntI : List V → Hp → VK → Prop := fun xs H Q => (∃ i, xs = [.int i] ∧ Q (.int i) H) ∨ ∃ k, xs = [.bl k] ∧ Q (.int (if k then 1 else 0)) H
theorem ev_intI {i : Int} (h : EvD m K te σ H (.d (.int i))) : EvD m K (tCB rIntI (tCons te tNil)) σ H (.d (.int i)) := ev_cb (ea_cons h ea_nil) fun H1 vs e j Q q => by
  obtain ⟨v, rfl, j1⟩ := isAll1 j
  rw [dp_int j1]
  exact .inl ⟨i, rfl, q _ H1 (R.refl e.ok) (.int _)⟩
theorem ev_sumL {ns : List Int} (h : EvD m K te σ H (.rl (ns.map .int))) : EvD m K (tCB (rSum K) (tCons te tNil)) σ H (.d (.int ns.sum)) := ev_cb (ea_cons h ea_nil) fun H1 vs e j Q q => by
  obtain ⟨v, rfl, j1⟩ := isAll1 j
  obtain ⟨p, xs, rfl, g1, g2⟩ := rl_at j1
  have ex := dpAll_ints g2
  subst ex
  exact ⟨p, ns, rfl, g1, q _ H1 (R.refl e.ok) (.int _)⟩
theorem es_maxL {ns : List Int} (h : EvD m K te σ H (.rl (ns.map .int))) (hn : 0 < ns.length) : EvS m K (tCB (rMax K) (tCons te tNil)) σ H (fun r => ∃ k, r = .d (.int k) ∧ k ∈ ns ∧ ∀ y ∈ ns, y ≤ k) := fun H1 e Q q => h H1 e _ fun v H2 e2 i2 => by
  obtain ⟨p, xs, rfl, g1, g2⟩ := rl_at i2
  have ex := dpAll_ints g2
  subst ex
  exact ⟨p, ns, rfl, g1, hn, fun k hk hy => q _ _ H2 e2 ⟨k, rfl, hk, fun y hy2 => hy y hy2⟩ (.int _)⟩
theorem ev_anyL {bs : List Bool} (h : EvD m K te σ H (.rl (bs.map .bool))) : EvD m K (tCB (rAny K) (tCons te tNil)) σ H (.d (.bool (bs.any id))) := ev_cb (ea_cons h ea_nil) fun H1 vs e j Q q => by
  obtain ⟨v, rfl, j1⟩ := isAll1 j
  obtain ⟨p, xs, rfl, g1, g2⟩ := rl_at j1
  have ex := dpAll_bls g2
  subst ex
  exact ⟨p, bs, rfl, g1, q _ H1 (R.refl e.ok) (.bl _)⟩
theorem ev_allL {bs : List Bool} (h : EvD m K te σ H (.rl (bs.map .bool))) : EvD m K (tCB (rAll K) (tCons te tNil)) σ H (.d (.bool (bs.all id))) := ev_cb (ea_cons h ea_nil) fun H1 vs e j Q q => by
  obtain ⟨v, rfl, j1⟩ := isAll1 j
  obtain ⟨p, xs, rfl, g1, g2⟩ := rl_at j1
  have ex := dpAll_bls g2
  subst ex
  exact ⟨p, bs, rfl, g1, q _ H1 (R.refl e.ok) (.bl _)⟩
/-- tuple(xs), tuple(t) -/
abbrev rTupOf (K : PySem.W.Frag) : List V → Hp → VK → Prop := fun xs H Q => ∃ p ys, xs = [.ref p] ∧ ((SqL K H p ys ∧ ∀ l, H l = none → Q (.ref l) (upd H l (.tup ys))) ∨ (SqT K H p ys ∧ Q (.ref p) H))
theorem ev_tupL {ds : List PyData} (h : EvD m K te σ H (.rl ds)) : EvD m K (tCB (rTupOf K) (tCons te tNil)) σ H (.d (.tuple ds)) := ev_cb (ea_cons h ea_nil) fun H1 vs e j Q q => by
  obtain ⟨v, rfl, j1⟩ := isAll1 j
  obtain ⟨p, xs, rfl, g1, g2⟩ := rl_at j1
  refine ⟨p, xs, rfl, .inl ⟨g1, fun l hl => ?_⟩⟩
  have r1 : m.R H1 (upd H1 l (.tup xs)) := R.new e.ok hl
  exact q _ _ r1 (.tup (SqT.of (vw_upd e.ok hl rfl)) (DpAll.mono r1.ex _ _ g2))
theorem ev_tupT {ds : List PyData} (h : EvD m K te σ H (.d (.tuple ds))) : EvD m K (tCB (rTupOf K) (tCons te tNil)) σ H (.d (.tuple ds)) := ev_cb (ea_cons h ea_nil) fun H1 vs e j Q q => by
  obtain ⟨v, rfl, j1⟩ := isAll1 j
  obtain ⟨p, xs, rfl, g1, g2⟩ := dp_tup j1
  exact ⟨p, xs, rfl, .inr ⟨sqT_mono vw_same g1, q _ H1 (R.refl e.ok) (.tup g1 g2)⟩⟩
abbrev rListOf (K : PySem.W.Frag) : List V → Hp → VK → Prop := fun xs H Q => ∃ p ys, xs = [.ref p] ∧ (SqL K H p ys ∨ SqT K H p ys) ∧ ∀ l, H l = none → Q (.ref l) (upd H l (.lst ys))
theorem ev_lstT {ds : List PyData} (h : EvD m K te σ H (.d (.tuple ds))) : EvD m K (tCB (rListOf K) (tCons te tNil)) σ H (.tl ds) := ev_cb (ea_cons h ea_nil) fun H1 vs e j Q q => by
  obtain ⟨v, rfl, j1⟩ := isAll1 j
  obtain ⟨p, xs, rfl, g1, g2⟩ := dp_tup j1
  refine ⟨p, xs, rfl, .inr (sqT_mono vw_same g1), fun l hl => ?_⟩
  have r1 : m.R H1 (upd H1 l (.lst xs)) := R.new e.ok hl
  exact q _ _ r1 ⟨l, xs, rfl, vw_upd e.ok hl rfl, DpAll.mono r1.ex _ _ g2⟩
/-- sorted(xs), fewer than 64 ints -/
theorem es_sorted {ns : List Int} (h : EvD m K te σ H (.rl (ns.map .int))) (hn : ns.length < 64) : EvS m K (tCB (rSorted K) (tCons te tNil)) σ H (fun r => ∃ ns' : List Int, r = .tl (ns'.map .int) ∧ ns'.Perm ns ∧ ns'.Pairwise (· ≤ ·)) := fun H1 e Q q => h H1 e _ fun v H2 e2 i2 => by
  obtain ⟨p, xs, rfl, g1, g2⟩ := rl_at i2
  have ex := dpAll_ints g2
  subst ex
  refine ⟨p, ns, rfl, g1, hn, fun ns' l hp hs hl => ?_⟩
  have r1 : m.R H2 (upd H2 l (.lst (ns'.map V.int))) := R.new e2.ok hl
  exact q _ _ _ (R.trans e2 r1) ⟨ns', rfl, hp, hs⟩ ⟨l, _, rfl, vw_upd e2.ok hl rfl, ints_dpAll ns'⟩
/-! isinstance -/
def tyD : PyData → String
  | .none => "NoneType"
  | .bool _ => "bool"
  | .int _ => "int"
  | .str _ => "str"
  | .list _ => "list"
  | .tuple _ => "tuple"
  | .dict _ => "dict"
theorem tyD_of {H : Hp} {v : V} {d : PyData} (h : Dp K H v d) : TyX K H v (.type (tyD d)) := by
  cases h with
  | non => exact .base .non
  | bl b => exact .base (.bl b)
  | int i => exact .base (.int i)
  | str x => exact .base (.str x)
  | lst h1 h2 =>
    rcases h1 with (h1 | ⟨o, h1⟩) | ⟨o, its, n, hk, hc, _⟩
    · exact .base (.lst h1)
    · exact .base (.frz h1)
    · exact .kList hk hc
  | tup h1 h2 =>
    rcases h1 with (h1 | ⟨o, h1⟩) | ⟨o, its, n, hk, hc, _⟩
    · exact .base (.tup h1)
    · exact .fTuple h1
    · exact .kTuple hk hc
/-- a built-in class as a value -/
theorem ev_ty {n : String} : EvD m K (tC (.ty n)) σ H (.v (.ty n)) := ev_c fun _ => rfl
theorem ev_isi {n : String} {b : Bool} (h : EvD m K te σ H (.d a)) (hk : kitB (tyD a) n = some b) : EvD m K (tCB (rIsi K) (tCons te (tCons (tC (.ty n)) tNil))) σ H (.d (.bool b)) := ev_cb (ea_cons h (ea_cons ev_ty ea_nil)) fun H1 vs e j Q q => by
  obtain ⟨v, w, rfl, j1, j2⟩ := isAll2 j
  have ew : w = .ty n := j2
  subst ew
  exact ⟨v, .ty n, _, _, b, rfl, .ty n, tyD_of (Dp.mono vw_same _ _ j1), kit_ty hk, q _ H1 (R.refl e.ok) (.bl _)⟩
end
end K20
end
section
set_option linter.all false
set_option maxRecDepth 100000
set_option maxHeartbeats 2000000
set_option autoImplicit false
namespace K20
open PySem PySem.Spec PyProof.Rows L2 LamX NdefX
/-! ### promises -/
def SpP (K : PySem.W.Frag) {α : Type} (enc : α → List Dx) (pre : α → Prop) (post : α → Dx → Prop) : Sp := fun vs H Q _ =>
  ∃ (m : Md) (x : α), m.ok H ∧ IsAll m K H vs (enc x) ∧ pre x ∧ ∀ r v H', m.R H H' → post x r → Is m K H' v r → Q v H'
/-- the answer is told -/
abbrev SpF (K : PySem.W.Frag) {α : Type} (enc : α → List Dx) (pre : α → Prop) (f : α → Dx) : Sp := SpP K enc pre fun x r => r = f x
structure Cal (P : Program) (w : World) (K : PySem.W.Frag) (mg : Str → Option Value) (base : Heap) (k : Nat) (x : Str) (ps : List Str) (sp : Sp) : Prop where
  ex : ∃ (f : Addr) (fd : FuncData), FnOk P w K mg base CX0 k f fd ps sp ∧ mg x = some (.ref f) ∧ PySem.W.keepIn K (.ref f) = true ∧ Binds K fd ps []
section
variable {X : Cx} {k : Nat} {x : Str} {ps : List Str} {sp : Sp} {e : Expr} {es : List Expr} {t : TA} {p pos : Pos}
theorem pe_cal (C : Cal X.prog X.w X.K X.mg X.base k x ps sp) (hr : Room k X.A) (hg : Gl X x) (ha : PA X (e :: es) t) (hdb : (x == ("__debug__" : Str)) = false := by decide)
    (he : starEach (e :: es) X.env = (false, eval e X.env) :: starEach es X.env := by rfl) (hpl : (backTo pos (starEach es X.env)).any (·.1) = false := by rfl) : PE X (.Call (.Name x p) (e :: es) [] pos) (tCall sp [] E0 t) := by
  obtain ⟨f, fd, F, hm, hk, hb⟩ := C.ex
  exact pe_call F hr hg hm hk hb .nil pass0 ha hdb he hpl
end
section
variable {m : Md} {K : PySem.W.Frag} {σ : L2.St} {H H' : Hp} {ta tb te tx : TE} {t u : TT} {x y z v : V} {r r1 r2 : Dx} {a b c : PyData} {α : Type} {enc : α → List Dx} {pre : α → Prop} {post : α → Dx → Prop} {f : α → Dx}
theorem es_call {tA : TA} {E : XK} {x : α} (h : EvA m K tA σ H (enc x)) (hp : pre x) : EvS m K (tCall (SpP K enc pre post) [] E tA) σ H (post x) := fun H1 e Q q => h H1 e _ fun vs H2 e2 i2 => by
  show SpP K enc pre post (vs ++ []) H2 Q E
  rw [List.append_nil]
  exact ⟨m, x, e2.ok, i2, hp, fun r v H3 e3 hr i3 => q r v H3 (R.trans e2 e3) hr i3⟩
theorem ev_call {tA : TA} {E : XK} {x : α} (h : EvA m K tA σ H (enc x)) (hp : pre x) : EvD m K (tCall (SpF K enc pre f) [] E tA) σ H (f x) := fun H1 e Q q => es_call h hp H1 e Q fun r v H2 e2 hr i2 => q v H2 e2 (by rw [← hr]; exact i2)
/-! ### statements -/
variable {D : Ends} {tu tw tz : TS} {g : TG}
theorem s_asg {i : Nat} (k : m.ok H) (h : EvD m K te σ H r) (q : ∀ v H1, m.R H H1 → Is m K H1 v r → D.nx (σ.set i (some v)) H1) : tAsg te (gName i) D σ H := h H (R.refl k) _ fun v H1 e i1 => q v H1 e i1
theorem s_asgS {i : Nat} {S : Dx → Prop} (k : m.ok H) (h : EvS m K te σ H S) (q : ∀ r v H1, m.R H H1 → S r → Is m K H1 v r → D.nx (σ.set i (some v)) H1) : tAsg te (gName i) D σ H := h H (R.refl k) _ fun r v H1 e s i1 => q r v H1 e s i1
theorem s_ret (k : m.ok H) (h : EvD m K te σ H r) (q : ∀ v H1, m.R H H1 → Is m K H1 v r → D.rt v H1) : tRet te D σ H := h H (R.refl k) _ fun v H1 e i1 => q v H1 e i1
theorem s_retS {S : Dx → Prop} (k : m.ok H) (h : EvS m K te σ H S) (q : ∀ r v H1, m.R H H1 → S r → Is m K H1 v r → D.rt v H1) : tRet te D σ H := h H (R.refl k) _ fun r v H1 e s i1 => q r v H1 e s i1
theorem s_drop (k : m.ok H) (h : EvD m K te σ H r) (q : ∀ H1, m.R H H1 → D.nx σ H1) : tDrop te D σ H := h H (R.refl k) _ fun v H1 e i1 => q H1 e
theorem s_if {b : Bool} (k : m.ok H) (h : EvT m t σ H b) (h1 : b = true → ∀ H1, m.R H H1 → tu D σ H1) (h2 : b = false → ∀ H1, m.R H H1 → tw D σ H1) : tIfS t tu tw D σ H := h H (R.refl k) _ fun H1 e => by
  cases b with
  | true => exact h1 rfl H1 e
  | false => exact h2 rfl H1 e
theorem q_asg {i : Nat} (k : m.ok H) (h : EvD m K te σ H r) (q : ∀ v H1, m.R H H1 → Is m K H1 v r → tz D (σ.set i (some v)) H1) : tSeq (tAsg te (gName i)) tz D σ H := s_asg (D := { D with nx := tz D }) k h q
theorem q_asgS {i : Nat} {S : Dx → Prop} (k : m.ok H) (h : EvS m K te σ H S) (q : ∀ r v H1, m.R H H1 → S r → Is m K H1 v r → tz D (σ.set i (some v)) H1) : tSeq (tAsg te (gName i)) tz D σ H := s_asgS (D := { D with nx := tz D }) k h q
theorem q_drop (k : m.ok H) (h : EvD m K te σ H r) (q : ∀ H1, m.R H H1 → tz D σ H1) : tSeq (tDrop te) tz D σ H := s_drop (D := { D with nx := tz D }) k h q
theorem q_if {b : Bool} (k : m.ok H) (h : EvT m t σ H b) (h1 : b = true → ∀ H1, m.R H H1 → tu { D with nx := tz D } σ H1) (h2 : b = false → ∀ H1, m.R H H1 → tw { D with nx := tz D } σ H1) : tSeq (tIfS t tu tw) tz D σ H := s_if (D := { D with nx := tz D }) k h h1 h2
/-- an if without else -/
theorem q_when {b : Bool} (k : m.ok H) (h : EvT m t σ H b) (h1 : b = true → ∀ H1, m.R H H1 → tu { D with nx := tz D } σ H1) (h2 : b = false → ∀ H1, m.R H H1 → tz D σ H1) : tSeq (tIfS t tu tNext) tz D σ H := s_if (D := { D with nx := tz D }) k h h1 h2
theorem s_when {b : Bool} (k : m.ok H) (h : EvT m t σ H b) (h1 : b = true → ∀ H1, m.R H H1 → tu D σ H1) (h2 : b = false → ∀ H1, m.R H H1 → D.nx σ H1) : tIfS t tu tNext D σ H := s_if k h h1 h2
/-! ### targets -/
theorem g_pair {i j : Nat} {Q : L2.St → Hp → Prop} (h : Is m K H v (.d (.tuple [a, b]))) (q : ∀ x y, Is m K H x (.d a) → Is m K H y (.d b) → Q ((σ.set i (some x)).set j (some y)) H) : gTup K 2 (gCons (gName i) (gCons (gName j) gNil)) v σ H Q := by
  obtain ⟨p, xs, rfl, h1, h2⟩ := dp_tup h
  cases h2 with
  | cons ga h2 => cases h2 with
    | cons gb h2 =>
      cases h2
      exact ⟨p, _, rfl, sqT_mono vw_same h1, rfl, _, _, rfl, _, _, rfl, rfl, q _ _ ga gb⟩
/-! ### loops -/
/-- what a turn is to reach -/
def Nx (m : Md) (ps : List Addr) (H1 : Hp) (P : L2.St → Hp → Prop) : L2.St → Hp → Prop := fun σ3 H3 => m.W ps H1 H3 ∧ P σ3 H3
theorem s_forT {ps : List Addr} {tl : TE} {ds : List PyData} (k : m.ok H) (h : EvD m K tl σ H (.d (.tuple ds))) (Pv : Nat → L2.St → Hp → Prop) (h0 : ∀ H1, m.R H H1 → Pv 0 σ H1)
    (hs : ∀ H1 i d v σ' H', ds[i]? = some d → m.R H H1 → m.W ps H1 H' → Pv i σ' H' → Is m K H' v (.d d) → g v σ' H' fun σ2 H2 => tu { D with nx := Nx m ps H1 (Pv (i + 1)), ct := Nx m ps H1 (Pv (i + 1)), bk := D.nx } σ2 H2)
    (hd : ∀ σ' H', m.W ps H H' → Pv ds.length σ' H' → D.nx σ' H') : tFor (iTup K tl) g tu D σ H := h H (R.refl k) _ fun v H1 e1 i1 => by
  obtain ⟨p, xs, rfl, g1, g2⟩ := dp_tup i1
  have el := dpAll_len g2
  refine ⟨p, rfl, ⟨xs, sqT_mono vw_same g1⟩, for_tup (K := K) (a := p) (xs := xs) (fun i σ' H' => m.W ps H1 H' ∧ Pv i σ' H') ⟨W.refl e1.ok, h0 H1 e1⟩ (fun i σ' H' _ q => sqT_mono (q.1.ex.trans vw_same) g1) (fun i x σ' H' hx q => ?_) (fun σ' H' q => hd σ' H' (W.trans (R.w e1) q.1) (by rw [← el]; exact q.2))⟩
  obtain ⟨d, hd1, hd2⟩ := dpAll_get g2 hx
  exact hs H1 i d x σ' H' hd1 e1 q.1 q.2 (Dp.mono q.1.ex _ _ hd2)
theorem s_forL {ps : List Addr} {tl : TE} {ds : List PyData} (k : m.ok H) (h : EvD m K tl σ H (.d (.list ds))) (Pv : Nat → L2.St → Hp → Prop) (h0 : ∀ H1, m.R H H1 → Pv 0 σ H1)
    (hs : ∀ H1 i d v σ' H', ds[i]? = some d → m.R H H1 → m.W ps H1 H' → Pv i σ' H' → Is m K H' v (.d d) → g v σ' H' fun σ2 H2 => tu { D with nx := Nx m ps H1 (Pv (i + 1)), ct := Nx m ps H1 (Pv (i + 1)), bk := D.nx } σ2 H2)
    (hd : ∀ σ' H', m.W ps H H' → Pv ds.length σ' H' → D.nx σ' H') : tFor (iList K tl) g tu D σ H := h H (R.refl k) _ fun v H1 e1 i1 => by
  obtain ⟨p, xs, rfl, g1, g2⟩ := dp_lst i1
  have el := dpAll_len g2
  refine ⟨p, rfl, ⟨xs, sqL_mono vw_same g1⟩, for_list (K := K) (a := p) (xs := xs) (fun i σ' H' => m.W ps H1 H' ∧ Pv i σ' H') ⟨W.refl e1.ok, h0 H1 e1⟩ (fun i σ' H' _ q => sqL_mono (q.1.ex.trans vw_same) g1) (fun i x σ' H' hx q => ?_) (fun σ' H' q => hd σ' H' (W.trans (R.w e1) q.1) (by rw [← el]; exact q.2))⟩
  obtain ⟨d, hd1, hd2⟩ := dpAll_get g2 hx
  exact hs H1 i d x σ' H' hd1 e1 q.1 q.2 (Dp.mono q.1.ex _ _ hd2)
theorem s_forR1 {ps : List Addr} {tA : TA} {n : Nat} {j : Nat} (k : m.ok H) (h : EvA m K tA σ H [.d (.int (n : Int))]) (hn : n ≤ 100000) (Pv : Nat → L2.St → Hp → Prop) (h0 : ∀ H1, m.R H H1 → Pv 0 σ H1)
    (hs : ∀ H1 i σ' H', i < n → m.R H H1 → m.W ps H1 H' → Pv i σ' H' → tu { D with nx := Nx m ps H1 (Pv (i + 1)), ct := Nx m ps H1 (Pv (i + 1)), bk := D.nx } (σ'.set j (some (.int (i : Int)))) H')
    (hd : ∀ σ' H', m.W ps H H' → Pv n σ' H' → D.nx σ' H') : tFor (iRng1 tA) (gName j) tu D σ H := h H (R.refl k) _ fun vs H1 e1 i1 => by
  obtain ⟨v, rfl, i2⟩ := isAll1 i1
  rw [dp_int i2]
  refine ⟨(n : Int), rfl, by omega, by omega, ?_⟩
  rw [Int.toNat_natCast]
  refine for_range (lo := 0) (n := n) (fun i σ' H' => m.W ps H1 H' ∧ Pv i σ' H') ⟨W.refl e1.ok, h0 H1 e1⟩ (fun i σ' H' hi q => ?_) (fun σ' H' q => hd σ' H' (W.trans (R.w e1) q.1) q.2)
  have e0 : (0 : Int) + (i : Int) = (i : Int) := Int.zero_add _
  show tu _ (σ'.set j (some (.int ((0 : Int) + (i : Int))))) H'
  rw [e0]
  exact hs H1 i σ' H' hi e1 q.1 q.2
theorem q_forT {ps : List Addr} {tl : TE} {ds : List PyData} (k : m.ok H) (h : EvD m K tl σ H (.d (.tuple ds))) (Pv : Nat → L2.St → Hp → Prop) (h0 : ∀ H1, m.R H H1 → Pv 0 σ H1)
    (hs : ∀ H1 i d v σ' H', ds[i]? = some d → m.R H H1 → m.W ps H1 H' → Pv i σ' H' → Is m K H' v (.d d) → g v σ' H' fun σ2 H2 => tu { D with nx := Nx m ps H1 (Pv (i + 1)), ct := Nx m ps H1 (Pv (i + 1)), bk := tz D } σ2 H2)
    (hd : ∀ σ' H', m.W ps H H' → Pv ds.length σ' H' → tz D σ' H') : tSeq (tFor (iTup K tl) g tu) tz D σ H := s_forT (D := { D with nx := tz D }) k h Pv h0 hs hd
theorem q_forL {ps : List Addr} {tl : TE} {ds : List PyData} (k : m.ok H) (h : EvD m K tl σ H (.d (.list ds))) (Pv : Nat → L2.St → Hp → Prop) (h0 : ∀ H1, m.R H H1 → Pv 0 σ H1)
    (hs : ∀ H1 i d v σ' H', ds[i]? = some d → m.R H H1 → m.W ps H1 H' → Pv i σ' H' → Is m K H' v (.d d) → g v σ' H' fun σ2 H2 => tu { D with nx := Nx m ps H1 (Pv (i + 1)), ct := Nx m ps H1 (Pv (i + 1)), bk := tz D } σ2 H2)
    (hd : ∀ σ' H', m.W ps H H' → Pv ds.length σ' H' → tz D σ' H') : tSeq (tFor (iList K tl) g tu) tz D σ H := s_forL (D := { D with nx := tz D }) k h Pv h0 hs hd
theorem q_forR1 {ps : List Addr} {tA : TA} {n : Nat} {j : Nat} (k : m.ok H) (h : EvA m K tA σ H [.d (.int (n : Int))]) (hn : n ≤ 100000) (Pv : Nat → L2.St → Hp → Prop) (h0 : ∀ H1, m.R H H1 → Pv 0 σ H1)
    (hs : ∀ H1 i σ' H', i < n → m.R H H1 → m.W ps H1 H' → Pv i σ' H' → tu { D with nx := Nx m ps H1 (Pv (i + 1)), ct := Nx m ps H1 (Pv (i + 1)), bk := tz D } (σ'.set j (some (.int (i : Int)))) H')
    (hd : ∀ σ' H', m.W ps H H' → Pv n σ' H' → tz D σ' H') : tSeq (tFor (iRng1 tA) (gName j) tu) tz D σ H := s_forR1 (D := { D with nx := tz D }) k h hn Pv h0 hs hd
/-! ### comprehensions -/
/-- into a mode that hides more: what is known goes along -/
structure Into (m m' : Md) (K : PySem.W.Frag) (H H' : Hp) : Prop where
  ok : m'.ok H'
  is : ∀ v d, Is m K H v d → Is m' K H' v d
  lo : ∀ p ∈ m.lo, p ∈ m'.lo ∧ H' p = H p
theorem R.into (k : m.R H H') : Into m m K H H' := ⟨k.ok, fun _ _ h => h.mono k, fun _ hp => ⟨hp, R.lo k hp⟩⟩
/-- the new list's word: behind turn i it holds what the first i gave -/
def LcW (m : Md) (K : PySem.W.Frag) (H1 : Hp) (Dl : Addr) (acc : Nat → List PyData) (i : Nat) (H' : Hp) : Prop :=
  H1 Dl = none ∧ (m.hide Dl).R (upd H1 Dl (.lst [])) (upd H' Dl (.lst [])) ∧ ∃ vs, H' Dl = some (.lst vs) ∧ DpAll K ((m.hide Dl).vw H') vs (acc i)
theorem del_vw {p : Addr} {o o' : HO} (h1 : H p = some o) : (m.hide p).vw (upd H p o') = (m.hide p).vw H := by
  funext b
  by_cases z : b = p
  · have za : (m.hide p).at b := .inr (by rw [z]; exact List.mem_cons_self ..)
    unfold Md.vw
    rw [if_pos za, if_pos za]
  · unfold Md.vw
    rw [upd_ne z]
end
end K20
end
section
set_option linter.all false
set_option maxRecDepth 100000
set_option maxHeartbeats 2000000
set_option autoImplicit false
namespace K20
open PySem PySem.Spec PyProof.Rows L2 LamX NdefX
section
variable {m : Md} {K : PySem.W.Frag} {σ : L2.St} {H H' : Hp} {ta tb te tx tl : TE} {t u tt : TT} {x y z v : V} {r r1 r2 : Dx} {a b c : PyData}
theorem into_lc {D : Addr} {H1 : Hp} {o : HO} (k : m.ok H1) (hD : H1 D = none) (w : (m.hide D).W [D] (upd H1 D o) H') : Into m (m.hide D) K H1 H' := by
  refine ⟨w.ok, fun v d h => ?_, fun p hp => ?_⟩
  rotate_left
  · obtain ⟨u, hu, _⟩ := k.lo p hp
    have na : p ≠ D := ne_of_none hu hD
    exact ⟨List.mem_cons_of_mem _ hp, by rw [w.keep p (List.mem_cons_of_mem _ hp) (by simp [na]), upd_ne na]⟩
  cases hd : d.fix with
  | true => exact ((h.hide (p := D) (o := o) k hD).w w hd)
  | false =>
    cases d with
    | rl xs =>
      obtain ⟨a, ws, h0, h1, h2⟩ := h
      have e : Same (m.vw H1) ((m.hide D).vw H') := (hide_vw k hD).trans w.ex
      refine ⟨a, ws, h0, ?_, DpAll.mono e _ _ h2⟩
      rcases h1 with h1 | ⟨h1, h3⟩
      · exact .inl (sqL_mono e h1)
      · have na : a ≠ D := ne_of_none h3 hD
        exact .inr ⟨List.mem_cons_of_mem _ h1, by rw [w.keep a (List.mem_cons_of_mem _ h1) (by simp [na]), upd_ne na]; exact h3⟩
    | _ => cases hd
/-- a turn's test and element: S none: nothing is given; S (some y): y is given -/
def TurnOk (m : Md) (K : PySem.W.Frag) (tt : TT) (te : TE) (σ : L2.St) (H : Hp) (S : Option PyData → Prop) : Prop := ∀ H1, m.R H H1 → ∀ Q : Bool → Hp → Prop, (∀ H2, m.R H1 H2 → S none → Q false H2) →
  (∀ H2, m.R H1 H2 → EvS m K te σ H2 (fun r => ∃ y, r = .d y ∧ S (some y)) → Q true H2) → tt σ H1 Q
theorem TurnOk.det {S : Option PyData → Prop} {p : Bool} {y : PyData} (h1 : EvT m tt σ H p) (h2 : p = true → EvD m K te σ H (.d y)) (s1 : p = false → S none) (s2 : p = true → S (some y)) : TurnOk m K tt te σ H S := fun H1 e Q q1 q2 => h1 H1 e Q fun H2 e2 => by
  cases p with
  | false => exact q1 H2 e2 (s1 rfl)
  | true => exact q2 H2 e2 ((h2 rfl).mono (R.trans e e2) |>.s ⟨y, rfl, s2 rfl⟩)
/-- no test -/
theorem TurnOk.all {S : Option PyData → Prop} (h : EvS m K te σ H (fun r => ∃ y, r = .d y ∧ S (some y))) : TurnOk m K tYes te σ H S := fun H1 e Q q1 q2 => q2 H1 (R.refl e.ok) (h.mono e)
def optA (ys : List PyData) : Option PyData → List PyData
  | none => ys
  | some y => ys ++ [y]
theorem lc20 {J : It} {n : Nat} {G : Hp → Prop} {Y : Nat → Hp → V → Hp → Prop} (w : Walk J n G Y) {H1 : Hp} {g : TG} {vs : List Nat} {Qd : Addr → Hp → Prop} (hz : n ≤ 40000) (k : m.ok H1) (Acc : Nat → List PyData → Prop) (h0 : Acc 0 [])
    (hG : ∀ H', Same (m.vw H1) H' → G H')
    (hs : ∀ m' H' H'' i v ys, i < n → Into m m' K H1 H' → Y i H' v H'' → Acc i ys → ∀ Q : L2.St → Hp → Prop, (∀ σ2, m'.R H' H'' → wipe σ2 vs = wipe σ vs → TurnOk m' K tt te σ2 H'' (fun o => Acc (i + 1) (optA ys o)) → Q σ2 H'') → g v (wipe σ vs) H'' Q)
    (hd : ∀ D H' ys, m.R H1 H' → Acc n ys → Is m K H' (.ref D) (.tl ys) → Qd D H') (D : Addr) (hD : H1 D = none) :
    ∃ W : Nat → Nat → Hp → Prop, (∃ m, W 0 m (upd H1 D (.lst []))) ∧ ∀ i m H, W i m H →
      (J.stop i H ∧ Qd D H) ∨ (J.go i H ∧ ∃ Nx : Hp → Prop, (∀ H', Nx H' → ∃ m', m' < m ∧ W (i + 1) m' H') ∧ ∀ x H', J.yld i H x H' → g x (wipe σ vs) H' fun σ2 H2 => wipe σ2 vs = wipe σ vs ∧ tt σ2 H2 fun b H3 =>
        if b = true then te σ2 H3 fun y H4 => ∃ acc, H4 D = some (.lst acc) ∧ acc.length < sizeLine ∧ Nx (upd H4 D (.lst (acc ++ [y]))) else Nx H3) := by
  have at0 : ¬ m.at D := ok_at k hD
  have inD : D ∈ (m.hide D).lo := List.mem_cons_self ..
  refine lc_it w (fun i H' => (m.hide D).W [D] (upd H1 D (.lst [])) H' ∧ ∃ ws ys, H' D = some (.lst ws) ∧ DpAll K ((m.hide D).vw H') ws ys ∧ ys.length ≤ i ∧ Acc i ys)
    ⟨W.refl (hide_ok k hD), [], [], upd_same, .nil, Nat.le_refl _, h0⟩ (fun i H' _ q => hG H' (((hide_vw k hD).trans q.1.ex).trans vw_same)) (fun i x H' H'' hi q y => ?_) (fun H' q => ?_)
  · obtain ⟨w1, ws, ys, e1, e2, e3, e4⟩ := q
    have I := into_lc (K := K) k hD w1
    refine hs (m.hide D) H' H'' i x ys hi I y e4 _ fun σ2 r2 hw T => ⟨hw, ?_⟩
    refine T H'' (R.refl r2.ok) _ (fun H3 r3 s3 => ?_) (fun H3 r3 s3 => ?_)
    · show (m.hide D).W [D] (upd H1 D (.lst [])) H3 ∧ _
      have r := R.trans r2 r3
      exact ⟨W.trans w1 (R.w r), ws, ys, by rw [R.lo r inD]; exact e1, DpAll.mono r.ex _ _ e2, Nat.le_succ_of_le e3, s3⟩
    · show te σ2 H3 _
      refine s3 H3 (R.refl r3.ok) _ fun rr yv H4 r4 hr i4 => ?_
      obtain ⟨yd, rfl, sy⟩ := hr
      have r := R.trans (R.trans r2 r3) r4
      have e1' : H4 D = some (.lst ws) := by
        rw [R.lo r inD]
        exact e1
      refine ⟨ws, e1', Evl.sz_lt (by have := dpAll_len e2; omega), ?_, ws ++ [yv], ys ++ [yd], upd_same, ?_, by rw [List.length_append, List.length_singleton]; omega, sy⟩
      · exact W.trans (W.trans w1 (R.w r)) (W.put r4.ok inD (by simp))
      · rw [del_vw e1']
        exact dpAll_app (DpAll.mono r.ex _ _ e2) (.cons i4 .nil)
  · obtain ⟨w1, ws, ys, e1, e2, e3, e4⟩ := q
    exact hd D H' ys (unhide k hD w1) e4 ⟨D, ws, rfl, see k hD e1 rfl, DpAll.mono unhide_vw _ _ e2⟩
/-- [.. for .. in a tuple] -/
theorem es_lcT {g : TG} {vs : List Nat} {ds : List PyData} (Acc : Nat → List PyData → Prop) (h : EvD m K tl σ H (.d (.tuple ds))) (hz : ds.length ≤ 40000) (h0 : Acc 0 [])
    (hs : ∀ m' H' i d v ys, ds[i]? = some d → Into m m' K H H' → Is m' K H' v (.d d) → Acc i ys → ∀ Q : L2.St → Hp → Prop, (∀ σ2, wipe σ2 vs = wipe σ vs → TurnOk m' K tt te σ2 H' (fun o => Acc (i + 1) (optA ys o)) → Q σ2 H') → g v (wipe σ vs) H' Q) :
    EvS m K (tLc (iTup K tl) g tt te vs) σ H (fun r => ∃ ys, r = .tl ys ∧ Acc ds.length ys) := fun H0 e0 Q q => h H0 e0 _ fun v H1 e1 i1 => by
  obtain ⟨p, xs, rfl, g1, g2⟩ := dp_tup i1
  have el := dpAll_len g2
  refine ⟨p, rfl, ⟨xs, sqT_mono vw_same g1⟩, fun D hD => ?_⟩
  refine lc20 (m := m) (K := K) (walk_tup (xs := xs)) (by rw [el]; exact hz) e1.ok Acc h0 (fun H' s => sqT_mono s g1) (fun m' H' H'' i v ys hi I y a Q2 q2 => ?_) (fun D H' ys r a i => q _ _ H' (R.trans e1 r) ⟨ys, rfl, by rw [← el]; exact a⟩ i) D hD
  obtain ⟨rfl, hx⟩ := y
  obtain ⟨d, hd1, hd2⟩ := dpAll_get g2 hx
  exact hs m' _ i d v ys hd1 ⟨I.ok, fun v d h => I.is v d (h.mono (R.trans e0 e1)), fun p hp => ⟨(I.lo p hp).1, (I.lo p hp).2.trans (R.lo (R.trans e0 e1) hp)⟩⟩ (I.is v (.d d) hd2) a Q2 fun σ2 hw T => q2 σ2 (R.refl I.ok) hw T
theorem es_lcL {g : TG} {vs : List Nat} {ds : List PyData} (Acc : Nat → List PyData → Prop) (h : EvD m K tl σ H (.d (.list ds))) (hz : ds.length ≤ 40000) (h0 : Acc 0 [])
    (hs : ∀ m' H' i d v ys, ds[i]? = some d → Into m m' K H H' → Is m' K H' v (.d d) → Acc i ys → ∀ Q : L2.St → Hp → Prop, (∀ σ2, wipe σ2 vs = wipe σ vs → TurnOk m' K tt te σ2 H' (fun o => Acc (i + 1) (optA ys o)) → Q σ2 H') → g v (wipe σ vs) H' Q) :
    EvS m K (tLc (iList K tl) g tt te vs) σ H (fun r => ∃ ys, r = .tl ys ∧ Acc ds.length ys) := fun H0 e0 Q q => h H0 e0 _ fun v H1 e1 i1 => by
  obtain ⟨p, xs, rfl, g1, g2⟩ := dp_lst i1
  have el := dpAll_len g2
  refine ⟨p, rfl, ⟨xs, sqL_mono vw_same g1⟩, fun D hD => ?_⟩
  refine lc20 (m := m) (K := K) (walk_list (xs := xs)) (by rw [el]; exact hz) e1.ok Acc h0 (fun H' s => sqL_mono s g1) (fun m' H' H'' i v ys hi I y a Q2 q2 => ?_) (fun D H' ys r a i => q _ _ H' (R.trans e1 r) ⟨ys, rfl, by rw [← el]; exact a⟩ i) D hD
  obtain ⟨rfl, hx⟩ := y
  obtain ⟨d, hd1, hd2⟩ := dpAll_get g2 hx
  exact hs m' _ i d v ys hd1 ⟨I.ok, fun v d h => I.is v d (h.mono (R.trans e0 e1)), fun p hp => ⟨(I.lo p hp).1, (I.lo p hp).2.trans (R.lo (R.trans e0 e1) hp)⟩⟩ (I.is v (.d d) hd2) a Q2 fun σ2 hw T => q2 σ2 (R.refl I.ok) hw T
theorem es_lcR {g : TG} {vs : List Nat} {tA : TA} {n : Nat} (Acc : Nat → List PyData → Prop) (h : EvA m K tA σ H [.d (.int (n : Int))]) (hz : n ≤ 40000) (h0 : Acc 0 [])
    (hs : ∀ m' H' i ys, i < n → Into m m' K H H' → Acc i ys → ∀ Q : L2.St → Hp → Prop, (∀ σ2, wipe σ2 vs = wipe σ vs → TurnOk m' K tt te σ2 H' (fun o => Acc (i + 1) (optA ys o)) → Q σ2 H') → g (.int (i : Int)) (wipe σ vs) H' Q) :
    EvS m K (tLc (iRng1 tA) g tt te vs) σ H (fun r => ∃ ys, r = .tl ys ∧ Acc n ys) := fun H0 e0 Q q => h H0 e0 _ fun ws H1 e1 i1 => by
  obtain ⟨v, rfl, i2⟩ := isAll1 i1
  rw [dp_int i2]
  refine ⟨(n : Int), rfl, by omega, by omega, fun D hD => ?_⟩
  rw [Int.toNat_natCast]
  refine lc20 (m := m) (K := K) (walk_range (lo := 0) (n := n)) hz e1.ok Acc h0 (fun H' s => True.intro) (fun m' H' H'' i v ys hi I y a Q2 q2 => ?_) (fun D H' ys r a i => q _ _ H' (R.trans e1 r) ⟨ys, rfl, a⟩ i) D hD
  obtain ⟨rfl, hx⟩ := y
  have e0' : (0 : Int) + (i : Int) = (i : Int) := Int.zero_add _
  have hx' : v = .int (i : Int) := by
    rw [← e0']
    exact hx
  rw [hx']
  exact hs m' _ i ys hi ⟨I.ok, fun v d h => I.is v d (h.mono (R.trans e0 e1)), fun p hp => ⟨(I.lo p hp).1, (I.lo p hp).2.trans (R.lo (R.trans e0 e1) hp)⟩⟩ a Q2 fun σ2 hw T => q2 σ2 (R.refl I.ok) hw T
/-- the told ones -/
theorem ev_lcT {j : Nat} {vs : List Nat} {ds : List PyData} (p : PyData → Bool) (f : PyData → PyData) (h : EvD m K tl σ H (.d (.tuple ds))) (hz : ds.length ≤ 40000) (hw : ∀ x, wipe ((wipe σ vs).set j (some x)) vs = wipe σ vs)
    (ht : ∀ m' H' d v, d ∈ ds → Into m m' K H H' → Is m' K H' v (.d d) → EvT m' tt ((wipe σ vs).set j (some v)) H' (p d)) (he : ∀ m' H' d v, d ∈ ds → Into m m' K H H' → Is m' K H' v (.d d) → p d = true → EvD m' K te ((wipe σ vs).set j (some v)) H' (.d (f d))) :
    EvD m K (tLc (iTup K tl) (gName j) tt te vs) σ H (.tl ((ds.filter p).map f)) := fun H1 e Q q => es_lcT (fun i ys => ys = ((ds.take i).filter p).map f) h hz rfl (fun m' H' i d v ys hd I hi a Q2 q2 => q2 _ (hw v)
    (TurnOk.det (ht m' H' d v (List.mem_of_getElem? hd) I hi) (he m' H' d v (List.mem_of_getElem? hd) I hi) (fun hp => by
      show ys = _
      rw [a, List.take_add_one, hd, List.filter_append]
      show _ = ((ds.take i).filter p ++ [d].filter p).map f
      rw [List.filter_cons, if_neg (by rw [hp]; decide), List.filter_nil, List.append_nil]) (fun hp => by
      show ys ++ [f d] = _
      rw [a, List.take_add_one, hd, List.filter_append]
      show _ = ((ds.take i).filter p ++ [d].filter p).map f
      rw [List.filter_cons, if_pos hp, List.filter_nil, List.map_append] <;> rfl))) H1 e Q fun r v H2 e2 hr i2 => by
    obtain ⟨ys, rfl, a⟩ := hr
    rw [List.take_length] at a
    rw [a] at i2
    exact q v H2 e2 i2
theorem ev_lcL {j : Nat} {vs : List Nat} {ds : List PyData} (p : PyData → Bool) (f : PyData → PyData) (h : EvD m K tl σ H (.d (.list ds))) (hz : ds.length ≤ 40000) (hw : ∀ x, wipe ((wipe σ vs).set j (some x)) vs = wipe σ vs)
    (ht : ∀ m' H' d v, d ∈ ds → Into m m' K H H' → Is m' K H' v (.d d) → EvT m' tt ((wipe σ vs).set j (some v)) H' (p d)) (he : ∀ m' H' d v, d ∈ ds → Into m m' K H H' → Is m' K H' v (.d d) → p d = true → EvD m' K te ((wipe σ vs).set j (some v)) H' (.d (f d))) :
    EvD m K (tLc (iList K tl) (gName j) tt te vs) σ H (.tl ((ds.filter p).map f)) := fun H1 e Q q => es_lcL (fun i ys => ys = ((ds.take i).filter p).map f) h hz rfl (fun m' H' i d v ys hd I hi a Q2 q2 => q2 _ (hw v)
    (TurnOk.det (ht m' H' d v (List.mem_of_getElem? hd) I hi) (he m' H' d v (List.mem_of_getElem? hd) I hi) (fun hp => by
      show ys = _
      rw [a, List.take_add_one, hd, List.filter_append]
      show _ = ((ds.take i).filter p ++ [d].filter p).map f
      rw [List.filter_cons, if_neg (by rw [hp]; decide), List.filter_nil, List.append_nil]) (fun hp => by
      show ys ++ [f d] = _
      rw [a, List.take_add_one, hd, List.filter_append]
      show _ = ((ds.take i).filter p ++ [d].filter p).map f
      rw [List.filter_cons, if_pos hp, List.filter_nil, List.map_append] <;> rfl))) H1 e Q fun r v H2 e2 hr i2 => by
    obtain ⟨ys, rfl, a⟩ := hr
    rw [List.take_length] at a
    rw [a] at i2
    exact q v H2 e2 i2
theorem ev_lcR {j : Nat} {vs : List Nat} {tA : TA} {n : Nat} (p : Nat → Bool) (f : Nat → PyData) (h : EvA m K tA σ H [.d (.int (n : Int))]) (hz : n ≤ 40000) (hw : ∀ x, wipe ((wipe σ vs).set j (some x)) vs = wipe σ vs)
    (ht : ∀ m' H' i, i < n → Into m m' K H H' → EvT m' tt ((wipe σ vs).set j (some (.int (i : Int)))) H' (p i)) (he : ∀ m' H' i, i < n → Into m m' K H H' → p i = true → EvD m' K te ((wipe σ vs).set j (some (.int (i : Int)))) H' (.d (f i))) :
    EvD m K (tLc (iRng1 tA) (gName j) tt te vs) σ H (.tl (((List.range n).filter p).map f)) := fun H1 e Q q => es_lcR (fun i ys => ys = ((List.range i).filter p).map f) h hz rfl (fun m' H' i ys hi I a Q2 q2 => q2 _ (hw _)
    (TurnOk.det (ht m' H' i hi I) (he m' H' i hi I) (fun hp => by
      show ys = _
      rw [a, List.range_succ, List.filter_append, List.filter_cons, if_neg (by rw [hp]; decide), List.filter_nil, List.append_nil]) (fun hp => by
      show ys ++ [f i] = _
      rw [a, List.range_succ, List.filter_append, List.filter_cons, if_pos hp, List.filter_nil, List.map_append] <;> rfl))) H1 e Q fun r v H2 e2 hr i2 => by
    obtain ⟨ys, rfl, a⟩ := hr
    rw [a] at i2
    exact q v H2 e2 i2
theorem filter_true {α : Type} (l : List α) : l.filter (fun _ => true) = l := List.filter_eq_self.mpr fun _ _ => rfl
theorem et_yes {b : Bool} (h : b = true) : EvT m tYes σ H b := fun H1 e Q q => by
  show Q true H1
  rw [← h]
  exact q H1 (R.refl e.ok)
end
end K20
end
section
set_option linter.all false
set_option maxRecDepth 100000
set_option maxHeartbeats 2000000
set_option autoImplicit false
namespace K20
open PySem PySem.Spec PyProof.Rows L2 LamX NdefX
/-- what the top has left of the names -/
structure Glo (K : PySem.W.Frag) (mg : Str → Option Value) : Prop where
  isinstance_ : mg "isinstance" = none
  int_ : mg "int" = none
  bool_ : mg "bool" = none
  tuple_ : mg "tuple" = none
  len_ : mg "len" = none
  all_ : mg "all" = none
  enumerate_ : mg "enumerate" = none
  sorted_ : mg "sorted" = none
  list_ : mg "list" = none
  range_ : mg "range" = none
  min_ : mg "min" = none
  dict_ : mg "dict" = none
  max_ : mg "max" = none
  sum_ : mg "sum" = none
  set_ : mg "set" = none
  any_ : mg "any" = none
  str_ : mg "str" = none
  zip_ : mg "zip" = none
  abs_ : mg "abs" = none
  mTags : ∃ t, mg "MOST_TAGS" = some (.int 200 t)
  mRooms : ∃ t, mg "MOST_ROOMS" = some (.int 60 t)
  mMem : ∃ t, mg "MOST_MEMORY" = some (.int 30 t)
  mNeeds : ∃ t, mg "MOST_NEEDS" = some (.int 24 t)
  mEach : ∃ t, mg "MOST_EACH" = some (.int 60 t)
  cW : Cls K (He.ga K "Web")
  nM : NoAttr K (He.ga K "Web") "memories"
  nT : NoAttr K (He.ga K "Web") "ties"
  cL : Cls K (He.ga K "Leading")
  nKeeper : NoAttr K (He.ga K "Leading") "keeper"
  nWeb : NoAttr K (He.ga K "Leading") "web"
  nK : NoAttr K (He.ga K "Leading") "k"
  nDone : NoAttr K (He.ga K "Leading") "done_so_far"
  nHere : NoAttr K (He.ga K "Leading") "here"
/-- the def x of the text, by the statement st -/
structure DefAt (K : PySem.W.Frag) (mg : Str → Option Value) (x : Str) (st : Stmt) : Prop where
  ex : ∃ (f : Addr) (fd : FuncData), FunD K x x (defArgs st) (defBody st) (defScope st) [] [] f fd ∧ mg x = some (.ref f)
structure MethDef (K : PySem.W.Frag) (C nm q : Str) (st : Stmt) : Prop where
  ex : ∃ (fd : FuncData), FunD K nm q (defArgs st) (defBody st) (defScope st) [] [] (He.ma K (He.ga K C) nm) fd
structure Top (K : PySem.W.Frag) (mg : Str → Option Value) : Prop where
  G : Glo K mg
  d_is_integer : DefAt K mg "is_integer" s_is_integer
  d_is_within : DefAt K mg "is_within" s_is_within
  d_is_number : DefAt K mg "is_number" s_is_number
  d_is_tuple_of : DefAt K mg "is_tuple_of" s_is_tuple_of
  d_check_number : DefAt K mg "check_number" s_check_number
  d_check_tags : DefAt K mg "check_tags" s_check_tags
  d_is_tie : DefAt K mg "is_tie" s_is_tie
  d_is_room : DefAt K mg "is_room" s_is_room
  d_tied_rooms : DefAt K mg "tied_rooms" s_tied_rooms
  d_blindly : DefAt K mg "blindly" s_blindly
  d_check_few_needs : DefAt K mg "check_few_needs" s_check_few_needs
  d_order_of : DefAt K mg "order_of" s_order_of
  d_choices : DefAt K mg "choices" s_choices
  d_lots_for : DefAt K mg "lots_for" s_lots_for
  d_tied_all : DefAt K mg "tied_all" s_tied_all
  d_is_too_few : DefAt K mg "is_too_few" s_is_too_few
  d_raw_dyeing : DefAt K mg "raw_dyeing" s_raw_dyeing
  d_dyeing : DefAt K mg "dyeing" s_dyeing
  d_in_turn : DefAt K mg "in_turn" s_in_turn
  d_row_for : DefAt K mg "row_for" s_row_for
  d_tags_of : DefAt K mg "tags_of" s_tags_of
  d_blind_row : DefAt K mg "blind_row" s_blind_row
  d_begun : DefAt K mg "begun" s_begun
  d_kept_tags : DefAt K mg "kept_tags" s_kept_tags
  d_raw_after : DefAt K mg "raw_after" s_raw_after
  d_raw_barred : DefAt K mg "raw_barred" s_raw_barred
  d_is_ask : DefAt K mg "is_ask" s_is_ask
  d_first_none : DefAt K mg "first_none" s_first_none
  d_is_row : DefAt K mg "is_row" s_is_row
  d_word_of : DefAt K mg "word_of" s_word_of
  d_led : DefAt K mg "led" s_led
  d_law_hand : DefAt K mg "_law_hand" s_law_hand
  d_law_draw : DefAt K mg "_law_draw" s_law_draw
  d_law_spec : DefAt K mg "_law_spec" s_law_spec
  d_law_tied : DefAt K mg "_law_tied" s_law_tied
  d_law_is_whole : DefAt K mg "_law_is_whole" s_law_is_whole
  d_law_next : DefAt K mg "_law_next" s_law_next
  d_law_unseeing : DefAt K mg "_law_unseeing" s_law_unseeing
  d_law_all_tags : DefAt K mg "_law_all_tags" s_law_all_tags
  d_law_falls : DefAt K mg "_law_falls" s_law_falls
  d_law_led : DefAt K mg "_law_led" s_law_led
  d_law_row : DefAt K mg "_law_row" s_law_row
  d_law_turns : DefAt K mg "_law_turns" s_law_turns
  d_law_late : DefAt K mg "_law_late" s_law_late
  d_law_blind_right : DefAt K mg "_law_blind_right" s_law_blind_right
  d_law : DefAt K mg "law" s_law
  w_glo : mg "Web" = some (.ref (He.ga K "Web"))
  w_mk : Mk K (He.ga K "Web") (He.ma K (He.ga K "Web") "__init__")
  w_init : MethDef K "Web" "__init__" "Web.__init__" s_Web_init
  l_glo : mg "Leading" = some (.ref (He.ga K "Leading"))
  l_mk : Mk K (He.ga K "Leading") (He.ma K (He.ga K "Leading") "__init__")
  l_init : MethDef K "Leading" "__init__" "Leading.__init__" s_Leading_init
  l_done : Meth K (He.ga K "Leading") "done" (He.ma K (He.ga K "Leading") "done")
  l_doneD : MethDef K "Leading" "done" "Leading.done" s_Leading_done
  l_answer : Meth K (He.ga K "Leading") "answer" (He.ma K (He.ga K "Leading") "answer")
  l_answerD : MethDef K "Leading" "answer" "Leading.answer" s_Leading_answer
theorem EvD.b {m : Md} {K : PySem.W.Frag} {te : TE} {σ : L2.St} {H : Hp} {x y : Bool} (h : EvD m K te σ H (.d (.bool x))) (e : x = y) : EvD m K te σ H (.d (.bool y)) := by
  rw [← e]
  exact h
theorem EvD.e {m : Md} {K : PySem.W.Frag} {te : TE} {σ : L2.St} {H : Hp} {x y : PyData} (h : EvD m K te σ H (.d x)) (e : x = y) : EvD m K te σ H (.d y) := by
  rw [← e]
  exact h
theorem Is.e {m : Md} {K : PySem.W.Frag} {H : Hp} {v : V} {x y : PyData} (h : Is m K H v (.d x)) (e : x = y) : Is m K H v (.d y) := by
  rw [← e]
  exact h
section
variable {P : Program} {w : World} {K : PySem.W.Frag} {mg : Str → Option Value} {base : Heap}
abbrev cxD (P : Program) (w : World) (K : PySem.W.Frag) (mg : Str → Option Value) (base : Heap) (N : List Str) (x : Str) (st : Stmt) (f : Addr) (cdv : Value) (A : Around) (outer : List Env) (s : Shared) (H0 : Hp) (E : XK) : Cx :=
  (cxOf CX0 P w K mg base N x (defScope st) f cdv A outer s H0 E).nox
theorem DefAt.cal {x : Str} {st : Stmt} {N ps : List Str} {k : Nat} {α : Type} {enc : α → List Dx} {pre : α → Prop} {post : α → Dx → Prop} (F : DefAt K mg x st) (S : FnScope N ps (defScope st))
    (hb : ∀ (kV doc pm : Value) (an : Option Addr) (cdv ct : Value) (us : List Value), us.length = ps.length → bindArgs (PySem.W.fnOf x x (defArgs st) (defBody st) (defScope st) .none kV doc pm an cdv ct) ⟨us, []⟩ = pure (ps.zip us))
    (len : ∀ a : α, (enc a).length = ps.length)
    (body : ∀ (f : Addr) (cdv : Value) (A : Around) (outer : List Env) (s : Shared) (H0 : Hp) (E : XK), Room k (A.deeper (envOfC x (defScope st) s.heap.objs.size f cdv)) →
      ∃ t, PSs (cxD P w K mg base N x st f cdv A outer s H0 E) (defBody st) t ∧
        ∀ (m : Md) (a : α) (H : Hp) (vs : List V) (Q : VK), m.ok H → IsAll m K H vs (enc a) → pre a → (∀ r v H', m.R H H' → post a r → Is m K H' v r → Q v H') → t { nx := fun _ H' => Q .non H', rt := Q } (start N vs) H) :
    Cal P w K mg base (k + 1) x ps (SpP K enc pre post) := by
  obtain ⟨f, fd, F, hm⟩ := F.ex
  have len' : ∀ vs H Q E, SpP K enc pre post vs H Q E → vs.length = ps.length := fun vs H Q E h => by
    obtain ⟨m, a, k, i, _⟩ := h
    rw [isAll_len i, len]
  refine ⟨f, fd, F.ok S len' (fun cdv A outer s H vs Q E hr h => ?_), hm, F.kp, F.bindsN hb⟩
  obtain ⟨t, ht, hq⟩ := body f cdv A outer s H E hr
  obtain ⟨m, a, k, i, hp, q⟩ := h
  exact ⟨t, ht.nox, hq m a H vs Q k i hp q⟩
/-- a method's promise, any -/
structure MCal (P : Program) (w : World) (K : PySem.W.Frag) (mg : Str → Option Value) (base : Heap) (k : Nat) (C nm : Str) (ps : List Str) (sp : Sp) : Prop where
  ex : ∃ (fd : FuncData), FnOk P w K mg base CX0 k (He.ma K (He.ga K C) nm) fd ps sp ∧ Binds K fd ps []
theorem MethDef.cal {C nm q : Str} {st : Stmt} {N ps : List Str} {k : Nat} {sp : Sp} (F : MethDef K C nm q st) (S : FnScope N ps (defScope st))
    (hb : ∀ (kV doc pm : Value) (an : Option Addr) (cdv ct : Value) (us : List Value), us.length = ps.length → bindArgs (PySem.W.fnOf nm q (defArgs st) (defBody st) (defScope st) .none kV doc pm an cdv ct) ⟨us, []⟩ = pure (ps.zip us))
    (len : ∀ vs H Q E, sp vs H Q E → vs.length = ps.length)
    (body : ∀ (f : Addr) (cdv : Value) (A : Around) (outer : List Env) (s : Shared) (H0 : Hp) (E : XK), Room k (A.deeper (envOfC q (defScope st) s.heap.objs.size f cdv)) →
      ∃ t, PSs (cxD P w K mg base N q st f cdv A outer s H0 E) (defBody st) t ∧
        ∀ (H : Hp) (vs : List V) (Q : VK), sp vs H Q E → t { nx := fun _ H' => Q .non H', rt := Q } (start N vs) H) :
    MCal P w K mg base (k + 1) C nm ps sp := by
  obtain ⟨fd, F⟩ := F.ex
  refine ⟨fd, F.ok S len (fun cdv A outer s H vs Q E hr h => ?_), F.bindsN hb⟩
  obtain ⟨t, ht, hq⟩ := body _ cdv A outer s H E hr
  exact ⟨t, ht.nox, hq H vs Q h⟩
end
end K20
end
section
set_option linter.all false
set_option maxRecDepth 100000
set_option maxHeartbeats 2000000
set_option autoImplicit false
namespace K20
open PySem PySem.Spec PyProof.Rows L2
/-! ### the program's words, in plain Lean -/
abbrev Stand := List (Bool × List Int)
def dSt1 (p : Bool × List Int) : PyData := .tuple [.bool p.1, dInts p.2]
def dStand (st : Stand) : PyData := .tuple (st.map dSt1)
abbrev Ask := Bool × Nat
def word (g : Bool) : Str := if g = true then "give" else "back"
def dAsk (a : Ask) : PyData := .tuple [.str (word a.1), .int (a.2 : Int)]
def dRow (l : List Ask) : PyData := .tuple (l.map dAsk)
inductive Deed where
  | give (r : Nat) (t : Int)
  | back (r : Nat)
def dDeed : Deed → PyData
  | .give r t => .tuple [.str (word true), .int (r : Int), .int t]
  | .back r => .tuple [.str (word false), .int (r : Int)]
def dDeeds (l : List Deed) : PyData := .tuple (l.map dDeed)
def at_ (st : Stand) (r : Nat) : Bool × List Int := st.getD r (false, [])
def roomD : Deed → Nat
  | .give r _ => r
  | .back r => r
def hereM (ms : List Nat) (st : Stand) : Deed → Bool × List Int
  | .give r t => (true, (t :: (at_ st r).2).take (max 1 (ms.getD r 0)))
  | .back r => (false, (at_ st r).2)
def afterM (ms : List Nat) (st : Stand) (d : Deed) : Stand := st.set (roomD d) (hereM ms st d)
def askOk (ms : List Nat) (st : Stand) (a : Ask) : Bool := decide (a.2 < ms.length) && (a.1 == !(at_ st a.2).1)
def askDeed (a : Ask) : Deed := if a.1 = true then .give a.2 0 else .back a.2
def rowOkFrom (ms : List Nat) : Stand → List Ask → Bool
  | _, [] => true
  | st, a :: as => askOk ms st a && rowOkFrom ms (afterM ms st (askDeed a)) as
def begunM (ms : List Nat) : Stand := List.replicate ms.length (false, [])
def rowOk (ms : List Nat) (l : List Ask) : Bool := rowOkFrom ms (begunM ms) l
def tied (ts : List (Nat × Nat)) (r o : Nat) : Bool := decide ((r, o) ∈ ts) || decide ((o, r) ∈ ts)
def barM (ms : List Nat) (ts : List (Nat × Nat)) (st : Stand) (r : Nat) (t : Int) : Bool :=
  decide (t ∈ ((at_ st r).2.take (ms.getD r 0))) || (List.range ms.length).any fun o => tied ts r o && (at_ st o).1 && ((at_ st o).2.head? == some t)
def oddM (k : Nat) : PyData → Bool
  | .int t => !(decide (0 ≤ t) && decide (t < (k : Int)))
  | _ => true
def wordM (ms : List Nat) (ts : List (Nat × Nat)) (k : Nat) (st : Stand) (r : Nat) (tag : PyData) : Str :=
  match tag with
  | .none => "stuck"
  | .int t => if oddM k (.int t) = true then "odd" else if barM ms ts st r t = true then "barred" else "kept"
  | _ => "odd"
structure StOk (ms : List Nat) (st : Stand) : Prop where
  len : st.length = ms.length
  few : ∀ p ∈ st, p.2.length ≤ 100
  held : ∀ p ∈ st, p.1 = true → p.2 ≠ []
theorem at_get {st : Stand} {r : Nat} (h : r < st.length) : st[r]? = some (at_ st r) := by
  unfold at_
  rw [List.getD_eq_getElem?_getD, List.getElem?_eq_getElem h]
  rfl
theorem at_mem {st : Stand} {r : Nat} (h : r < st.length) : at_ st r ∈ st := List.mem_of_getElem? (at_get h)
theorem begun_ok (ms : List Nat) : StOk ms (begunM ms) := by
  refine ⟨List.length_replicate, fun p hp => ?_, fun p hp h => ?_⟩
  · rw [(List.mem_replicate.mp hp).2]
    exact Nat.zero_le _
  · rw [(List.mem_replicate.mp hp).2] at h
    cases h
theorem after_ok {ms : List Nat} {st : Stand} (hm : ∀ m ∈ ms, m ≤ 3) (h : StOk ms st) (d : Deed) : StOk ms (afterM ms st d) := by
  have key : hereM ms st d = (hereM ms st d) := rfl
  refine ⟨by unfold afterM; rw [List.length_set]; exact h.len, fun p hp => ?_, fun p hp hh => ?_⟩
  · rcases List.mem_or_eq_of_mem_set hp with hp | rfl
    · exact h.few p hp
    · cases d with
      | give r t =>
        show ((t :: (at_ st r).2).take (max 1 (ms.getD r 0))).length ≤ 100
        rw [List.length_take]
        have hr : ms.getD r 0 ≤ 3 := by
          rw [List.getD_eq_getElem?_getD]
          cases e : ms[r]? with
          | none => exact Nat.zero_le _
          | some m => exact hm m (List.mem_of_getElem? e)
        omega
      | back r =>
        show (at_ st r).2.length ≤ 100
        by_cases hr : r < st.length
        · exact h.few _ (at_mem hr)
        · unfold at_
          rw [List.getD_eq_getElem?_getD, List.getElem?_eq_none (by omega)]
          exact Nat.zero_le _
  · rcases List.mem_or_eq_of_mem_set hp with hp | rfl
    · exact h.held p hp hh
    · cases d with
      | give r t =>
        show (t :: (at_ st r).2).take (max 1 (ms.getD r 0)) ≠ []
        intro e
        have := congrArg List.length e
        rw [List.length_take, List.length_cons, List.length_nil] at this
        omega
      | back r => cases hh
theorem after_len {ms : List Nat} {st : Stand} (d : Deed) : (afterM ms st d).length = st.length := by
  unfold afterM
  rw [List.length_set]
theorem cutD_take {xs : List PyData} {n : Nat} : cutD xs none (some (n : Int)) = xs.take n := by
  unfold cutD
  rw [HT.sIx_none, HT.sIx_nat, List.drop_zero, Nat.sub_zero, List.take_eq_take_min (i := n)]
theorem cutD_drop {xs : List PyData} {n : Nat} : cutD xs (some (n : Int)) none = xs.drop n := by
  unfold cutD
  rw [HT.sIx_none, HT.sIx_nat]
  by_cases h : n ≤ xs.length
  · rw [Nat.min_eq_left h]
    exact List.take_of_length_le (by rw [List.length_drop]; omega)
  · rw [Nat.min_eq_right (by omega), List.drop_of_length_le (Nat.le_refl _), List.drop_of_length_le (by omega), List.take_nil]
end K20
end
section
set_option linter.all false
set_option maxRecDepth 100000
set_option maxHeartbeats 2000000
set_option autoImplicit false
namespace K20
open PySem PySem.Spec PyProof.Rows L2 LamX NdefX
def isInt : PyData → Bool
  | .int _ => true
  | _ => false
def within (d : PyData) (lo hi : Int) : Bool := match d with
  | .int i => decide (lo ≤ i) && decide (i ≤ hi)
  | _ => false
def isNum (d : PyData) : Bool := match d with
  | .int i => decide (0 ≤ i)
  | _ => false
theorem int_of {d : PyData} (h : isInt d = true) : ∃ i, d = .int i := by
  cases d with
  | int i => exact ⟨i, rfl⟩
  | _ => cases h
section
variable {P : Program} {w : World} {K : PySem.W.Frag} {mg : Str → Option Value} {base : Heap}
theorem kit_int (d : PyData) : kitB (tyD d) "int" = some (isInt d || (tyD d == "bool")) := by
  cases d <;> (first | rfl | decide +kernel)
theorem kit_bool (d : PyData) : kitB (tyD d) "bool" = some (tyD d == "bool") := by
  cases d <;> (first | rfl | decide +kernel)
theorem isInt_eq (d : PyData) : ((isInt d || (tyD d == "bool")) && !(tyD d == "bool")) = isInt d := by
  cases d <;> (first | rfl | decide +kernel)
/-! ### is_integer -/
abbrev spIsInteger (K : PySem.W.Frag) : Sp := SpF K (fun d : PyData => [.d d]) (fun _ => True) (fun d => .d (.bool (isInt d)))
theorem sc_is_integer : FnScope ["thing"] ["thing"] (defScope s_is_integer) := ⟨rfl, rfl, rfl, by decide +kernel, rfl, by decide +kernel, by decide +kernel⟩
theorem ok_is_integer (T : Top K mg) : Cal P w K mg base 1 "is_integer" ["thing"] (spIsInteger K) := by
  have G := T.G
  refine T.d_is_integer.cal sc_is_integer (fun _ _ _ _ _ _ us hl => match us, hl with | [_], _ => rfl) (fun _ => rfl) (fun f cdv A outer s H0 E hr => ?_)
  refine ⟨_, (pss_one (ps_ret (pe_and (pe_callB call_isi (by rfl) G.isinstance_ (by decide +kernel) (pa_cons (pv 0) (pa_cons (pe_bltn (v := .ty "int") (by rfl) G.int_ (by decide +kernel) rfl) pa_nil))) (pe_one (pe_not (pe_callB call_isi (by rfl) G.isinstance_ (by decide +kernel) (pa_cons (pv 0) (pa_cons (pe_bltn (v := .ty "bool") (by rfl) G.bool_ (by decide +kernel) rfl) pa_nil)))))))), ?_⟩
  intro m d H vs Q k i _ q
  obtain ⟨v, rfl, i1⟩ := isAll1 i
  refine s_ret k (ev_andV (ev_isi (ev_var rfl i1) (kit_int d)) fun _ => ev_notV (ev_isi (ev_var rfl i1) (kit_bool d))) fun v H1 e i1 => ?_
  rw [isInt_eq] at i1
  exact q _ v H1 e rfl i1
/-! ### is_within -/
abbrev spIsWithin (K : PySem.W.Frag) : Sp := SpF K (fun a : PyData × Int × Int => [.d a.1, .d (.int a.2.1), .d (.int a.2.2)]) (fun _ => True) (fun a => .d (.bool (within a.1 a.2.1 a.2.2)))
theorem sc_is_within : FnScope ["thing", "least", "most"] ["thing", "least", "most"] (defScope s_is_within) := ⟨rfl, rfl, rfl, by decide +kernel, rfl, by decide +kernel, by decide +kernel⟩
theorem ok_is_within (T : Top K mg) : Cal P w K mg base 2 "is_within" ["thing", "least", "most"] (spIsWithin K) := by
  have G := T.G
  refine T.d_is_within.cal sc_is_within (fun _ _ _ _ _ _ us hl => match us, hl with | [_, _, _], _ => rfl) (fun _ => rfl) (fun f cdv A outer s H0 E hr => ?_)
  refine ⟨_, (pss_one (ps_ret (pe_and (pe_cal (ok_is_integer T) (hr.mono (by decide)) (by rfl) (pa_cons (pv 0) pa_nil)) (pe_one (pe_chain op_le op_le (pv 1) (pv 0) (pv 2)))))), ?_⟩
  intro m ⟨d, lo, hi⟩ H vs Q k i _ q
  obtain ⟨v, v2, v3, rfl, i1, i2, i3⟩ := isAll3 i
  cases hd : isInt d with
  | false =>
    refine s_ret k (ev_andV (b := true) (ev_call (x := d) (ea_cons (ev_var rfl i1) ea_nil) True.intro) fun z => by rw [hd] at z; cases z) fun v H1 e i1 => ?_
    refine q _ v H1 e rfl (i1.e (congrArg PyData.bool ?_))
    rw [hd]
    cases d <;> first | rfl | cases hd
  | true =>
    obtain ⟨n, rfl⟩ := int_of hd
    refine s_ret k (ev_andV (ev_call (x := PyData.int n) (ea_cons (ev_var rfl i1) ea_nil) True.intro) fun _ => ev_chain (ev_var rfl i2) (ev_var rfl i1) (ev_var rfl i3)) fun v H1 e i1 => ?_
    exact q _ v H1 e rfl i1
/-! ### is_number -/
abbrev spIsNumber (K : PySem.W.Frag) : Sp := SpF K (fun d : PyData => [.d d]) (fun _ => True) (fun d => .d (.bool (isNum d)))
theorem sc_is_number : FnScope ["thing"] ["thing"] (defScope s_is_number) := ⟨rfl, rfl, rfl, by decide +kernel, rfl, by decide +kernel, by decide +kernel⟩
theorem ok_is_number (T : Top K mg) : Cal P w K mg base 2 "is_number" ["thing"] (spIsNumber K) := by
  have G := T.G
  refine T.d_is_number.cal sc_is_number (fun _ _ _ _ _ _ us hl => match us, hl with | [_], _ => rfl) (fun _ => rfl) (fun f cdv A outer s H0 E hr => ?_)
  refine ⟨_, (pss_one (ps_ret (pe_and (pe_cal (ok_is_integer T) (hr.mono (by decide)) (by rfl) (pa_cons (pv 0) pa_nil)) (pe_one (pe_cmpR op_ge (pv 0) pe_int (nomark _)))))), ?_⟩
  intro m d H vs Q k i _ q
  obtain ⟨v, rfl, i1⟩ := isAll1 i
  cases hd : isInt d with
  | false =>
    refine s_ret k (ev_andV (b := true) (ev_call (x := d) (ea_cons (ev_var rfl i1) ea_nil) True.intro) fun z => by rw [hd] at z; cases z) fun v H1 e i1 => ?_
    refine q _ v H1 e rfl (i1.e (congrArg PyData.bool ?_))
    rw [hd]
    cases d <;> first | rfl | cases hd
  | true =>
    obtain ⟨n, rfl⟩ := int_of hd
    refine s_ret k (ev_andV (ev_call (x := PyData.int n) (ea_cons (ev_var rfl i1) ea_nil) True.intro) fun _ => ev_ib (ev_var rfl i1) ev_int) fun v H1 e i1 => ?_
    exact q _ v H1 e rfl i1
/-! ### is_tuple_of -/
def tupLen : PyData → Option Nat
  | .tuple ds => some ds.length
  | _ => none
theorem kit_tuple (d : PyData) : kitB (tyD d) "tuple" = some (tupLen d).isSome := by
  cases d <;> (first | rfl | decide +kernel)
theorem tup_of {d : PyData} (h : (tupLen d).isSome = true) : ∃ ds, d = .tuple ds := by
  cases d with
  | tuple ds => exact ⟨ds, rfl⟩
  | _ => cases h
abbrev spIsTupleOf (K : PySem.W.Frag) : Sp := SpF K (fun a : PyData × Nat => [.d a.1, .d (.int (a.2 : Int))]) (fun _ => True) (fun a => .d (.bool (decide (tupLen a.1 = some a.2))))
theorem sc_is_tuple_of : FnScope ["thing", "size"] ["thing", "size"] (defScope s_is_tuple_of) := ⟨rfl, rfl, rfl, by decide +kernel, rfl, by decide +kernel, by decide +kernel⟩
theorem ok_is_tuple_of (T : Top K mg) : Cal P w K mg base 1 "is_tuple_of" ["thing", "size"] (spIsTupleOf K) := by
  have G := T.G
  refine T.d_is_tuple_of.cal sc_is_tuple_of (fun _ _ _ _ _ _ us hl => match us, hl with | [_, _], _ => rfl) (fun _ => rfl) (fun f cdv A outer s H0 E hr => ?_)
  refine ⟨_, (pss_one (ps_ret (pe_and (pe_callB call_isi (by rfl) G.isinstance_ (by decide +kernel) (pa_cons (pv 0) (pa_cons (pe_bltn (v := .ty "tuple") (by rfl) G.tuple_ (by decide +kernel) rfl) pa_nil))) (pe_one (pe_cmpR op_eq (pe_callB call_len_seq (by rfl) G.len_ (by decide +kernel) (pa_cons (pv 0) pa_nil)) (pv 1) (nomark _)))))), ?_⟩
  intro m ⟨d, n⟩ H vs Q k i _ q
  obtain ⟨v, v2, rfl, i1, i2⟩ := isAll2 i
  cases hd : (tupLen d).isSome with
  | false =>
    refine s_ret k (ev_andV (b := true) (ev_isi (ev_var rfl i1) (kit_tuple d)) fun z => by rw [hd] at z; cases z) fun v H1 e i1 => ?_
    refine q _ v H1 e rfl (i1.e (congrArg PyData.bool ?_))
    rw [hd]
    cases d <;> first | rfl | cases hd
  | true =>
    obtain ⟨ds, rfl⟩ := tup_of hd
    refine s_ret k (ev_andV (ev_isi (ev_var rfl i1) (kit_tuple _)) fun _ => ev_eqI (ev_lenT (ev_var rfl i1)) (ev_var rfl i2)) fun v H1 e i1 => ?_
    refine q _ v H1 e rfl (i1.e (congrArg PyData.bool ?_))
    show (true && decide ((ds.length : Int) = (n : Int))) = decide (some ds.length = some n)
    rw [Bool.true_and]
    exact decide_eq_decide.mpr ⟨fun h => by rw [Int.ofNat.inj h], fun h => by rw [Option.some.inj h]⟩
/-! ### check_number, check_tags -/
abbrev spCheckNumber (K : PySem.W.Frag) : Sp := SpF K (fun a : PyData × Int × Int => [.d a.1, .d (.int a.2.1), .d (.int a.2.2)]) (fun a => within a.1 a.2.1 a.2.2 = true) (fun a => .d .none)
theorem sc_check_number : FnScope ["thing", "least", "most"] ["thing", "least", "most"] (defScope s_check_number) := ⟨rfl, rfl, rfl, by decide +kernel, rfl, by decide +kernel, by decide +kernel⟩
theorem ok_check_number (T : Top K mg) : Cal P w K mg base 3 "check_number" ["thing", "least", "most"] (spCheckNumber K) := by
  have G := T.G
  refine T.d_check_number.cal sc_check_number (fun _ _ _ _ _ _ us hl => match us, hl with | [_, _, _], _ => rfl) (fun _ => rfl) (fun f cdv A outer s H0 E hr => ?_)
  refine ⟨_, (pss_one (ps_if (pt_not (pt_val (pe_cal (ok_is_within T) (hr.mono (by decide)) (by rfl) (pa_cons (pv 0) (pa_cons (pv 1) (pa_cons (pv 2) pa_nil)))))) (pss_one ps_never) pss_nil)), ?_⟩
  intro m a H vs Q k i hp q
  obtain ⟨v, v2, v3, rfl, i1, i2, i3⟩ := isAll3 i
  refine s_if k (et_not (et_B (ev_call (x := a) (ea_cons (ev_var rfl i1) (ea_cons (ev_var rfl i2) (ea_cons (ev_var rfl i3) ea_nil))) True.intro))) (fun z => ?_) fun _ H1 e => q _ .non H1 e rfl .non
  rw [hp] at z
  cases z
abbrev spCheckTags (K : PySem.W.Frag) : Sp := SpF K (fun d : PyData => [.d d]) (fun d => within d 1 200 = true) (fun a => .d .none)
theorem sc_check_tags : FnScope ["thing"] ["thing"] (defScope s_check_tags) := ⟨rfl, rfl, rfl, by decide +kernel, rfl, by decide +kernel, by decide +kernel⟩
theorem ok_check_tags (T : Top K mg) : Cal P w K mg base 3 "check_tags" ["thing"] (spCheckTags K) := by
  have G := T.G
  obtain ⟨_, gTags⟩ := G.mTags
  refine T.d_check_tags.cal sc_check_tags (fun _ _ _ _ _ _ us hl => match us, hl with | [_], _ => rfl) (fun _ => rfl) (fun f cdv A outer s H0 E hr => ?_)
  refine ⟨_, (pss_one (ps_if (pt_not (pt_val (pe_cal (ok_is_within T) (hr.mono (by decide)) (by rfl) (pa_cons (pv 0) (pa_cons pe_int (pa_cons (pe_glob (v := .int 200) (by rfl) gTags ⟨_, rfl⟩) pa_nil)))))) (pss_one ps_never) pss_nil)), ?_⟩
  intro m d H vs Q k i hp q
  obtain ⟨v, rfl, i1⟩ := isAll1 i
  refine s_if k (et_not (et_B (ev_call (x := (d, (1 : Int), (200 : Int))) (ea_cons (ev_var rfl i1) (ea_cons ev_int (ea_cons ev_int ea_nil))) True.intro))) (fun z => ?_) fun _ H1 e => q _ .non H1 e rfl .non
  rw [hp] at z
  cases z
end
end K20
end
section
set_option linter.all false
set_option maxRecDepth 100000
set_option maxHeartbeats 4000000
set_option autoImplicit false
namespace K20
open PySem PySem.Spec PyProof.Rows L2
/-! ### t * k, every k -/
theorem tuple_mul1 (l : Addr) (items : Array Value) (n : Nat) (dd : Option Addr) (sl : Array (Option Value)) (u : Tok) :
    Meets (Builtin.«tuple.__mul__» ⟨[.ref l, .int 1 u], []⟩) (fun _ R s => s.heap.get? l = some { cls := .type "tuple", dict := dd, data := .seq items n, slots := sl } ∧
      R (.ok (.ret (Value.ref l))) s) :=
  .of_wp fun prog w A R s h => by
    obtain ⟨hp, g, d, tk, os⟩ := s
    obtain ⟨hl, h⟩ := h
    have f1 := AutoSeq1.idx_int
    have c1 : (items.isEmpty || (1 : Int) == 1) = true := by
      rw [show ((1 : Int) == 1) = true from rfl, Bool.or_true]
    wp_walk using wpAny_loadPart' hl
    repeat (first
      | (refine wpAny_ite_false (by decide) ?_; wp_walk using wpAny_loadPart' hl)
      | (refine wpAny_ite_true c1 ?_; wp_walk using wpAny_loadPart' hl))
    exact ⟨_, rfl, h⟩
theorem tuple_mul0 (l : Addr) (items : Array Value) (n : Nat) (dd : Option Addr) (sl : Array (Option Value)) (u : Tok) (hi : items.isEmpty = false) :
    Meets (Builtin.«tuple.__mul__» ⟨[.ref l, .int 0 u], []⟩) (fun _ R s => s.heap.get? l = some { cls := .type "tuple", dict := dd, data := .seq items n, slots := sl } ∧
      R (.ok (.ret (Value.ref s.heap.objs.size))) { s with heap := s.heap.push { cls := Value.type "tuple", data := Data.seq #[] }, toks := s.toks }) :=
  .of_wp fun prog w A R s h => by
    obtain ⟨hp, g, d, tk, os⟩ := s
    obtain ⟨hl, h⟩ := h
    have f1 := AutoSeq1.idx_int
    have c1 : ¬ ((items.isEmpty || (0 : Int) == 1) = true) := by
      rw [hi]
      decide
    have c2 : (decide ((0 : Int) ≤ 0) || items.isEmpty) = true := by
      rw [hi]
      decide
    wp_walk using wpAny_loadPart' hl
    repeat (first
      | (refine wpAny_ite_false (by decide) ?_; wp_walk using wpAny_loadPart' hl)
      | (refine wpAny_ite_false (decide_eq_false c1) ?_; wp_walk using wpAny_loadPart' hl)
      | (refine wpAny_ite_true c2 ?_; wp_walk using wpAny_loadPart' hl))
    exact ⟨_, rfl, h⟩
/-- a tuple that is not empty, k times, 0 ≤ k ≤ 1000 -/
def rRepU (K : PySem.W.Frag) : R2 := fun x y H Q => ∃ l k xs, x = .ref l ∧ y = .int k ∧ SqT K H l xs ∧ xs ≠ [] ∧ 0 ≤ k ∧ k ≤ 1000 ∧ xs.length ≤ 1000 ∧ (k = 1 → Q (.ref l) H) ∧ ∀ p, H p = none → Q (.ref p) (upd H p (.tup (List.replicate k.toNat xs).flatten))
section
variable {X : Cx}
theorem op_repU : OpR X (binaryOp .Mult) (rRepU X.K) := by
  intro pins s σ H x y v u Q I rx ry h
  obtain ⟨l, k, xs, hx, hy, hT, hne, h1, h2, hz, q1, q⟩ := h
  by_cases hk : 2 ≤ k
  · exact op_repT pins s σ H x y v u Q I rx ry ⟨l, k, xs, hx, hy, hT, hne, hk, h2, hz, q⟩
  · subst hx hy
    cases rx
    obtain ⟨t, rfl⟩ := ry
    obtain ⟨its, r, ⟨⟨cls, dd, data, sl⟩, ho, hc, n, hd⟩, hs⟩ := I.tuple hT
    simp only at hc hd
    subst hc hd
    by_cases hk1 : k = 1
    · subst hk1
      exact wpAny_binaryOp_repeat_ref (T := "tuple") (U := "int") (by decide) ⟨_, ho, rfl⟩ (fun s' => typeIs_int s' 1 t) noFill_tuple_mul F.fills_int_mul F.slot_int_rmul repeat_tuple F.slot_int_index.lookup
        (call_meets F.slot_int_rmul (typeIs_int s 1 t) F.entry_int_rmul (F.args_int_rmul_2 _ _) (int_rmul_tuple 1 t l its.toArray n dd sl)
          ⟨ho, rfl, ⟨_, ho, rfl⟩, call_meets F.slot_tuple_mul ⟨_, ho, rfl⟩ F.entry_tuple_mul (F.args_tuple_mul_2 _ _) (tuple_mul1 l its.toArray n dd sl t) ⟨ho, .ref l, H, I, rfl, q1 rfl⟩⟩)
    · have hk0 : k = 0 := by omega
      subst hk0
      have hle : its.length = xs.length := r.length.symm
      have hn : its ≠ [] := fun e => hne (by
        rw [e] at hle
        exact List.eq_nil_of_length_eq_zero hle.symm)
      have hi : its.toArray.isEmpty = false := by
        cases its with
        | nil => exact absurd rfl hn
        | cons a b => rfl
      refine wpAny_binaryOp_repeat_ref (T := "tuple") (U := "int") (by decide) ⟨_, ho, rfl⟩ (fun s' => typeIs_int s' 0 t) noFill_tuple_mul F.fills_int_mul F.slot_int_rmul repeat_tuple F.slot_int_index.lookup
        (call_meets F.slot_int_rmul (typeIs_int s 0 t) F.entry_int_rmul (F.args_int_rmul_2 _ _) (int_rmul_tuple 0 t l its.toArray n dd sl)
          ⟨ho, rfl, ⟨_, ho, rfl⟩, call_meets F.slot_tuple_mul ⟨_, ho, rfl⟩ F.entry_tuple_mul (F.args_tuple_mul_2 _ _) (tuple_mul0 l its.toArray n dd sl t hi) ⟨ho, ?_⟩⟩)
      refine ⟨.ref s.heap.objs.size, _, I.laid (t' := s.toks) (o := .tup (List.replicate (0 : Int).toNat xs).flatten) (fun b ob q => Heap.get?_push_of_some _ q) (Nat.le_refl _) ?_, rfl, q _ (I.hok.fresh (Nat.le_refl _))⟩
      exact ⟨by show 0 ≤ sizeLine; exact Nat.zero_le _, [], .nil, IsTup.new _ _⟩
/-! ### in a tuple of data -/
def rInDT (K : PySem.W.Frag) : R2 := fun x y H Q => ∃ d ds, Dp K H x d ∧ Dp K H y (.tuple ds) ∧ SeqAt.shaped d = true ∧ SeqAt.shaped (.tuple ds) = true ∧ Q (.bl (ds.any fun z => PyData.eqv z d)) H
theorem op_inDT (hu : X.A.units + 65 < cLine) : OpR X (compareOp .In) (rInDT X.K) := by
  intro pins s σ H x y v u Q I rx ry h
  obtain ⟨d, ds, hd, he, sd, se, q⟩ := h
  obtain ⟨as, r1⟩ := Dp.reads I d x v hd rx
  obtain ⟨bs, r2⟩ := Dp.reads I (.tuple ds) y u he ry
  exact SeqAt.in_tuple_reads r2 r1 (SeqAt.canLay_of_shaped se) (SeqAt.canLay_of_shaped sd) (room_in_shaped sd hu) ⟨.bl _, H, I, rfl, q⟩
end
end K20
end
section
set_option linter.all false
set_option maxRecDepth 100000
set_option maxHeartbeats 4000000
set_option autoImplicit false
namespace K20
open PySem PySem.Spec PyProof.Rows L2 PySem.SeqAt PySem.W
section
variable {X : Cx}
/-- min(xs) of a list of data that are alike: one of them -/
def rMinT (K : PySem.W.Frag) : List V → Hp → VK → Prop := fun vs H Q => ∃ (a : Addr) (xs : List V) (d : PyData) (ds : List PyData), vs = [.ref a] ∧ SqL K H a xs ∧ DpAll K H xs (d :: ds) ∧ AlikeAll (d :: ds) ∧ PyData.depthAll (d :: ds) ≤ 64 ∧ ∀ (i : Nat) (x : V), xs[i]? = some x → Q x H
theorem cr_minT (hc : X.calm = true) (hu : X.A.units + 65 < cLine) : CallR X (.builtin "min") (rMinT X.K) := by
  intro pins s σ H vs us Q I r h
  obtain ⟨a, xs, d, ds, rfl, hs, hD, hA, hz, q⟩ := h
  obtain ⟨its, rv, hl, _⟩ := I.list hs
  rw [Vals.ref1 r]
  obtain ⟨as, hr⟩ := Dp.readsAll I _ _ its hD rv
  refine min_list_data (I.ok.hd hc) hl.isList (by simpa using hr) hA (by omega) fun i v h' tk bs hv _ hk => ?_
  have hv' : its[i]? = some v := by simpa using hv
  have hlt : i < its.length := (List.getElem?_eq_some_iff.mp hv').1
  have hlx : i < xs.length := by rw [rv.length]; exact hlt
  obtain ⟨u, hu1, ru⟩ := rv.get (List.getElem?_eq_getElem hlx)
  rw [hv'] at hu1
  cases hu1
  exact ⟨xs[i], H, I.kept hk, ru, q i _ (List.getElem?_eq_getElem hlx)⟩
/-- sum(xs) of a tuple of ints -/
def rSumT (K : PySem.W.Frag) : List V → Hp → VK → Prop := fun vs H Q => ∃ (a : Addr) (ns : List Int), vs = [V.ref a] ∧ SqT K H a (ns.map V.int) ∧ Q (.int ns.sum) H
theorem cr_sumT (hc : X.calm = true) : CallR X (.builtin "sum") (rSumT X.K) := by
  intro pins s σ H vs us Q I r h
  obtain ⟨a, ns, rfl, hs, q⟩ := h
  obtain ⟨its, rv, hl, _⟩ := I.tuple hs
  rw [Vals.ref1 r]
  have hi : IntsAre its ns := rv.ints
  obtain ⟨xs, e⟩ := hi.allInts.items
  have hn : numsOf (intItems xs).toList = ns := by rw [← e]; exact hi.numsOf
  rw [nums_intItems] at hn
  have hl' : s.heap.IsTuple a its.toArray := hl
  rw [e] at hl'
  refine call_sum_walkG ?_
  refine iter_tupleW (A := X.A.in1) (I.ok.hd hc) hl' fun s2 e2 W st hfp hw hk => ?_
  subst e2
  have hlt : a < s.heap.objs.size := by
    obtain ⟨_, e, _⟩ := hl'
    exact Heap.lt_size e
  refine ⟨_, _, _, _, _, _, numAt xs, rfl, Walks.tuple (A := X.A.in1) (I.ok.hd hc) _ a (Nat.ne_of_lt hlt) (intItems xs), st, hfp, (fun _ _ => intItems_at), fun h' tk t' hk' => ?_⟩
  have ez : preSum (numAt xs) (intItems xs).size = ns.sum := by
    have : (intItems xs).size = xs.size := by simp [intItems]
    rw [this, preSum_eq, List.take_of_length_le (by simp), hn]
  rw [ez]
  exact ⟨.int _, H, I.kept fun b o eb => hk' b o (hw b o eb) (hk b o eb), ⟨_, rfl⟩, q⟩
/-- t.count(x), a tuple of data -/
def rCntT (K : PySem.W.Frag) : V → List V → Hp → VK → Prop := fun x xs H Q => ∃ (p : Addr) (y : V) (d : PyData) (ds : List PyData), x = .ref p ∧ xs = [y] ∧ Dp K H x (.tuple ds) ∧ Dp K H y d ∧ PyData.plainAll ds = true ∧ d.plain = true ∧ d.depth ≤ 64 ∧ Q (.int ((ds.countP fun z => PyData.eqv z d : Nat) : Int)) H
theorem mt_tcount (hu : X.A.units + 65 < cLine) : MtR X "tuple.count" (rCntT X.K) := by
  intro pins s σ H x xs v us Q I rx rs h
  obtain ⟨p, y, d, ds, rfl, rfl, hx, hy, p1, p2, hz, q⟩ := h
  cases rx
  obtain ⟨u, rfl, ru⟩ := rs.one
  cases hx with
  | tup hT hD =>
    obtain ⟨its, rv, hl, _⟩ := I.tuple hT
    obtain ⟨as, hr⟩ := Dp.readsAll I _ _ its hD rv
    obtain ⟨bs, hr2⟩ := Dp.reads I _ _ _ hy ru
    have hl' : s.heap.IsTuple p its.toArray := hl
    refine count_tuple_data hl' (by simpa using hr) hr2 p1 p2 (by omega) ?_
    exact ⟨.int _, H, I.tok _, ⟨_, rfl⟩, q⟩
/-- t.index(k), the first place; a tuple of ints -/
def rIdxI (K : PySem.W.Frag) : V → List V → Hp → VK → Prop := fun x xs H Q => ∃ (p : Addr) (ys : List Int) (z : Int) (j : Nat), x = .ref p ∧ xs = [.int z] ∧ SqT K H p (ys.map V.int) ∧ ys[j]? = some z ∧ (∀ m, m < j → ys[m]? ≠ some z) ∧ Q (.int (j : Nat)) H
theorem mt_tindex : MtR X "tuple.index" (rIdxI X.K) := by
  intro pins s σ H x xs v us Q I rx rs h
  obtain ⟨p, ys, z, j, rfl, rfl, hq, hy, hno, q⟩ := h
  cases rx
  obtain ⟨u, rfl, t, rfl⟩ := vals1 rs
  obtain ⟨its, r, pl, hz⟩ := I.tuple hq
  obtain ⟨⟨cls, dd, dt, sl⟩, ho, hc, n, hd⟩ := pl
  simp only at hc hd
  subst hc
  subst hd
  have hl : its.toArray.size = ys.length := by rw [List.size_toArray, ← r.length, List.length_map]
  have hj : j < its.toArray.size := by rw [hl]; exact (List.getElem?_eq_some_iff.mp hy).1
  have at' : ∀ (m : Nat) (hm : m < its.toArray.size), ∃ y t', ys[m]? = some y ∧ its.toArray[m] = Value.int y t' := fun m hm => by
    have hm' : m < ys.length := by rw [← hl]; exact hm
    obtain ⟨w, hw, t', hw'⟩ := r.get (i := m) (x := .int ys[m]) (by simp [hm'])
    refine ⟨ys[m], t', List.getElem?_eq_getElem hm', ?_⟩
    have e := (List.getElem?_eq_some_iff.mp hw).2
    rw [← hw', ← e]
    simp
  refine call_meets PySem.F.slot_tuple_index ⟨_, ho, rfl⟩ PySem.F.entry_tuple_index (PySem.F.args_tuple_index_2 _ _) (TI.tuple_indexAt p its.toArray n dd sl (.int z t) (eqU (.int z)) j hj ?_ ?_)
    ⟨ho, fun w hw => mem_eqAt (x := .int z) ⟨t, rfl⟩ rfl r (flat_ints ys) w (by simpa using hw), ⟨.int (j : Nat), H, I.tok _, ⟨_, rfl⟩, q⟩⟩
  · obtain ⟨y, t', h1, h2⟩ := at' j hj
    rw [hy] at h1
    cases h1
    rw [h2]
    show (z == z) = true
    exact beq_self_eq_true z
  · intro m hm hmj
    obtain ⟨y, t', h1, h2⟩ := at' m hm
    rw [h2]
    show (y == z) = false
    exact beq_eq_false_iff_ne.mpr fun e => hno m hmj (e ▸ h1)
/-! ### sets of ints -/
theorem nodup_len : ∀ {l m : List Int}, l.Nodup → (∀ x ∈ l, x ∈ m) → l.length ≤ m.length
  | [], _, _, _ => Nat.zero_le _
  | x :: l, m, h, hs => by
    have hx : x ∈ m := hs x (List.mem_cons_self ..)
    have hn := List.nodup_cons.mp h
    have ih : l.length ≤ (m.erase x).length := nodup_len hn.2 fun y hy => by
      have ne : y ≠ x := fun e => hn.1 (e ▸ hy)
      exact (List.mem_erase_of_ne ne).mpr (hs y (List.mem_cons_of_mem _ hy))
    rw [List.length_erase_of_mem hx] at ih
    have pos : 0 < m.length := List.length_pos_of_mem hx
    rw [List.length_cons]
    omega
theorem setR_count {w : World} {h : Heap} {a : Addr} {ns : List Int} {c : Nat} (R : SetR w h a (fun j => decide (j ∈ ns)) c) : ∀ l : List Int, l.Nodup → (∀ x ∈ l, x ∈ ns) → l.length ≤ c := fun l hn hs => by
  obtain ⟨o, es, ep, t, ho, hex, hd, g, nd, hm, hb, hf, hn2, hr, hl⟩ := R
  have := nodup_len (m := es.toList.map keyOf) hn fun x hx => (hm x).mp (decide_eq_true (hs x hx))
  rw [List.length_map] at this
  have e2 : es.toList.length = c := by rw [← hn2]; exact Array.length_toList
  rw [← e2]
  exact this
/-- set(xs), a tuple of ints -/
def rSetT (w : World) (K : PySem.W.Frag) : List V → Hp → VK → Prop := fun vs H Q => ∃ (p : Addr) (ns : List Int), vs = [.ref p] ∧ SqT K H p (ns.map V.int) ∧ ns.length ≤ 1000 ∧
  ∀ (c : Nat) (q : Addr), c ≤ ns.length → (∀ l : List Int, l.Nodup → (∀ x ∈ l, x ∈ ns) → l.length ≤ c) → H q = none → Q (.ref q) (upd H q (SetO w q (fun j => decide (j ∈ ns)) c))
theorem call_setT (hc : X.calm = true) : CallR X (.type "set") (rSetT X.w X.K) := by
  intro pins s σ H vs us Q I r h
  obtain ⟨p0, ns, rfl, hq, hl, q⟩ := h
  rw [Vals.ref1 r]
  obtain ⟨its, rv, pt, hz⟩ := I.tuple hq
  have hi : IntsAre its.toArray.toList ns := ints_of_vals rv
  refine call_set_tupI ns (I.ok.hd hc) (show s.heap.IsTuple p0 its.toArray from pt) hi (by unfold scanBound; omega) fun h' tk c R1 hcn k => ?_
  exact ⟨.ref _, upd H s.heap.objs.size (SetO X.w s.heap.objs.size (fun j => decide (j ∈ ns)) c), I.laid (t' := tk) k (Nat.le_refl _) (setO_new R1), rfl, q c _ hcn (setR_count R1) (I.hok.fresh (Nat.le_refl _))⟩
/-- len(s) -/
def rLenSet (w : World) : List V → Hp → VK → Prop := fun vs H Q => ∃ (a : Addr) (S : Int → Bool) (n : Nat), vs = [.ref a] ∧ H a = some (SetO w a S n) ∧ Q (.int (n : Int)) H
theorem cr_lenSet : CallR X (.builtin "len") (rLenSet X.w) := by
  intro pins s σ H vs us Q I r h
  obtain ⟨a, S, n, rfl, ha, q⟩ := h
  rw [Vals.ref1 r]
  obtain ⟨o, es, ep, t, ho, hex, hd, g, nd, hm, hb, hf, hn2, hr, hl⟩ := setO_get I ha
  subst hn2
  have hs : (es.size : Int) < 2 ^ 63 := by unfold scanBound at hb; omega
  exact call_len_set ho hex hd hf hs ⟨.int es.size, H, (I.tok _).tok _, ⟨_, rfl⟩, q⟩
theorem nc_set {w : World} {p : Addr} {S : Int → Bool} {n : Nat} : NC p (SetO w p S n) := fun q e => by
  unfold SetO LamX.CodeO at e
  have e2 := HO.ext.inj e
  let o : Obj := { cls := .none, data := .fields #[.none, .str q 0] }
  let h : Heap := { objs := Array.replicate (p + 1) o }
  have hg : h.get? p = some o := by
    have h1 : (Array.replicate (p + 1) o)[p]? = some o := by simp
    unfold Heap.get?
    show (match (Array.replicate (p + 1) o)[p]? with | some ⟨_, _, .freed, _⟩ => none | o => o) = some o
    rw [h1]
  have hC : ∃ (oc : Obj) (vs : Array Value) (t : Tok), h.get? p = some oc ∧ oc.data = .fields vs ∧ vs[1]? = some (.str q t) := ⟨o, _, 0, hg, rfl, rfl⟩
  have hS : SetR w h p S n := by
    have := congrFun e2 h
    rw [this]
    exact hC
  obtain ⟨o2, es, ep, t, ho, hex, hd, _⟩ := hS
  rw [hg] at ho
  cases ho
  cases hd
end
end K20
end
section
set_option linter.all false
set_option maxRecDepth 100000
set_option maxHeartbeats 4000000
set_option autoImplicit false
namespace K20
open PySem PySem.Spec PyProof.Rows L2 LamX NdefX
/-! ### enumerate(tuple) -/
def IteT (K : PySem.W.Frag) (a : Addr) : It :=
  ⟨fun i H => ∃ (xs : List V) (x : V), SqT K H a xs ∧ xs[i]? = some x, fun i H v H' => ∃ T x, v = .ref T ∧ H T = none ∧ H' = upd H T (.tup [.int (i : Nat), x]) ∧ ∀ xs, SqT K H a xs → xs[i]? = some x, fun i H => ∃ xs : List V, SqT K H a xs ∧ xs.length = i⟩
theorem turn_enumT {P : Program} {w : World} {K : PySem.W.Frag} {elts : List Expr} {kk : Nat} {tpos : Pos} (a e it : Addr) :
    Turn P w K (.Tuple elts kk tpos) (IteT K a) [e, it] e (fun i h => (∃ old, IsEnum h e it ((i : Nat) : Int) old) ∧ h.IsTupleIter it a i ∧ e ≠ it ∧ a ≠ it ∧ a ≠ e) where
  mem := by simp
  obj := fun i h st b hb => by
    obtain ⟨⟨old, he⟩, ⟨o, ho, hc, hd⟩, _⟩ := st
    have e' : b = e ∨ b = it := by simpa using hb
    rcases e' with z | z
    · rw [z]; exact ⟨_, he, fun v q => nomatch q⟩
    · rw [z]; exact ⟨o, ho, fun v q => by rw [hd] at q; cases q⟩
  keep := fun i h h' st k => let ⟨⟨old, he⟩, hi, hne⟩ := st; ⟨⟨old, k e (by simp) _ he⟩, hi.at fun o q => k it (by simp) o q, hne⟩
  item := by
    intro X hP hw hK hc i pins s σ H E I hf st hg
    subst hP hw hK
    obtain ⟨⟨old, he⟩, hit, hne, hai, hae⟩ := st
    obtain ⟨xs, x, hq, hx⟩ := hg
    obtain ⟨its, rv, p, hz⟩ := I.tuple hq
    obtain ⟨u, hu, ru⟩ := rv.get hx
    have hel : e < s.heap.objs.size := Heap.lt_size he
    have hil : it < s.heap.objs.size := by obtain ⟨_, q, _⟩ := hit; exact Heap.lt_size q
    have hlt : i < its.toArray.size := by
      have := (List.getElem?_eq_some_iff.mp hu).1
      simpa using this
    have pt : s.heap.IsTuple a its.toArray := p
    refine wpAny_pyNext_enum_itemD (Draws.tuple (A := X.A.in1) (I.ok.hd hc) it a hai its.toArray) he ⟨hit, pt⟩ hlt hne (by simp [hne, Ne.symm hae]) fun y h' tk hy ho hst hT hsz hk => ?_
    have ey : u = y := by
      have hy' : its[i]? = some y := by simpa using hy
      rw [hu] at hy'
      exact Option.some.inj hy'
    subst ey
    refine ⟨_, rfl, wpAny_letOwnedTupleGo_enum (s := { s with heap := h', toks := tk + 1 }) ho fun h'' he' sb => ?_⟩
    have hT2 : h''.get? s.heap.objs.size = some { cls := .type "tuple", data := .seq #[.int i tk, u] } := (sb.2 _ (Nat.ne_of_gt hel)).trans hT
    have new : ObjOk X.prog X.w (upd H s.heap.objs.size (.tup [.int (i : Nat), x])) h'' s.heap.objs.size (.tup [.int (i : Nat), x]) :=
      ⟨by show 2 ≤ sizeLine; decide, [.int i tk, u], .cons ⟨_, rfl⟩ (.cons ru .nil), ⟨_, hT2, rfl, _, rfl⟩⟩
    have I1 : Inv X pins σ (upd H s.heap.objs.size (.tup [.int (i : Nat), x])) { s with heap := h'', toks := tk + 1 } :=
      I.turnedNew (ch := [e, it]) (fun b ob hb q => (sb.2 b (fun z => hb (by simp [z]))).trans (hk b ob (fun z => hb (by simp [z])) (fun z => hb (by simp [z])) q)) hf (Nat.le_refl _) new
    refine ⟨.ref s.heap.objs.size, _, I1, rfl, ⟨_, x, rfl, I.hok.fresh (Nat.le_refl _), rfl, fun ys hy => by rw [I.tuple_inj hy hq]; exact hx⟩, ⟨⟨u, ?_⟩, hst.1.at fun o q => (sb.2 it (Ne.symm hne)).trans q, hne, hai, hae⟩, fun b hb => ?_⟩
    · have e1 : ((i + 1 : Nat) : Int) = (i : Int) + 1 := by omega
      rw [e1]; exact he'
    · have hb' : b < s.heap.objs.size := by
        have e' : b = e ∨ b = it := by simpa using hb
        rcases e' with z | z
        · rw [z]; exact hel
        · rw [z]; exact hil
      rw [upd_ne (Nat.ne_of_lt hb')]
      exact (hf b hb).1
  done := by
    intro X hP hw hK hc i pins s σ H E I hf st hg
    subst hP hw hK
    obtain ⟨⟨old, he⟩, hit, hne, hai, hae⟩ := st
    obtain ⟨xs, hq, hx⟩ := hg
    obtain ⟨its, rv, p, hz⟩ := I.tuple hq
    obtain ⟨f0, f1, f2, f3, f4, f5⟩ := hf it (by simp)
    have hl := rv.length
    have pt : s.heap.IsTuple a its.toArray := p
    have hn : i = its.toArray.size := by rw [List.size_toArray]; omega
    subst hn
    exact wpAny_pyNext_enum_endD (Draws.tuple (A := X.A.in1) (I.ok.hd hc) it a hai its.toArray) he ⟨hit, pt⟩ fun h' eb => ⟨rfl, I.turned (t' := s.toks) (fun b o hb q => eb b o hb q) f0 f1 f3 f4 f5⟩
  self := fun A i s Q E st h => let ⟨⟨_, he⟩, _⟩ := st; wpAny_pyIter_enum he h
theorem meets_enumT_new (l : Addr) (items : Array Value) :
    Meets (Builtin.«enumerate.__new__» ⟨[.type "enumerate", .ref l], []⟩) (fun _ R s => s.heap.IsTuple l items ∧
      R (.ok (.ret (.ref (s.heap.push { cls := .type "tuple_iterator", data := .fields #[.ref l, .int 0 0] }).objs.size))) { s with heap := (s.heap.push { cls := .type "tuple_iterator", data := .fields #[.ref l, .int 0 0] }).push { cls := .type "enumerate", data := .fields #[.none, .bool false, .ref s.heap.objs.size, rawInt 0, .none, .none] } }) :=
  .of_wp fun prog w A R s h => by
    obtain ⟨hp, g, d, tk, os⟩ := s; obtain ⟨h1, h⟩ := h
    have hsub := sub_enumerate
    have q1 : ∀ {A' : Around} {E : Value → Shared → Prop} {Q : Value → Shared → Prop}, Q (.ref hp.objs.size) ⟨hp.push { cls := .type "tuple_iterator", data := .fields #[.ref l, .int 0 0] }, g, d, tk, os⟩ → wpAny (model prog w) A' (pyIter (.ref l)) Q E ⟨hp, g, d, tk, os⟩ :=
      fun q => wpAny_pyIter_tuple h1 q
    wp_walk using q1
    refine wpAny_stack_any fun st => wpAny_pure ?_
    split
    · rename_i c _ _ _ _ _
      cases (c == Value.type "enumerate")
      · wp_walk using q1
        exact ⟨_, rfl, h⟩
      · wp_walk using q1
        exact ⟨_, rfl, h⟩
    · wp_walk using q1
      exact ⟨_, rfl, h⟩
section
variable {prog : Program} {w : World} {A : Around} {E : Value → Shared → Prop} {s : Shared}
theorem call_enumT {l : Addr} {items : Array Value} {Q : Value → Shared → Prop} (hl : s.heap.IsTuple l items)
    (h : ∀ h', IsEnum h' (s.heap.objs.size + 1) s.heap.objs.size 0 .none → h'.IsTupleIter s.heap.objs.size l 0 → h'.objs.size = s.heap.objs.size + 2 →
      (∀ b o, s.heap.get? b = some o → h'.get? b = some o) → Q (.ref (s.heap.objs.size + 1)) { s with heap := h' }) :
    wpAny (model prog w) A (call (.type "enumerate") [.ref l]) Q E s := by
  refine callType_new F.called_enumerate (by decide) (F.typeCall_enumerate_1 _) (F.newCall_enumerate_1 _) (fun obj => F.args_object_init_2 obj _) F.entry_enumerate_new
    (meets_enumT_new l items) ⟨hl, ?_⟩
  have hz : (s.heap.push { cls := .type "tuple_iterator", data := .fields #[.ref l, .int 0 0] }).objs.size = s.heap.objs.size + 1 := Heap.size_push ..
  show _ ∧ _
  rw [hz]
  have he : IsEnum ((s.heap.push { cls := .type "tuple_iterator", data := .fields #[.ref l, .int 0 0] }).push { cls := .type "enumerate", data := .fields #[.none, .bool false, .ref s.heap.objs.size, rawInt 0, .none, .none] }) (s.heap.objs.size + 1) s.heap.objs.size 0 .none := by
    have := Heap.get?_push_size (s.heap.push { cls := .type "tuple_iterator", data := .fields #[.ref l, .int 0 0] }) (o := { cls := .type "enumerate", data := .fields #[.none, .bool false, .ref s.heap.objs.size, rawInt 0, .none, .none] }) rfl
    rw [hz] at this; exact this
  exact ⟨⟨_, he, rfl⟩, h _ he ⟨_, Heap.get?_push_of_some _ (Heap.get?_push_size _ rfl), rfl, rfl⟩ (by rw [Heap.size_push, hz]) fun b o x => Heap.get?_push_of_some _ (Heap.get?_push_of_some _ x)⟩
end
def iEnumT (K : PySem.W.Frag) (ta : TA) : TI := fun σ H R => ta σ H fun vs H1 => ∃ a xs, vs = [.ref a] ∧ SqT K H1 a xs ∧ R (IteT K a) H1
theorem pi_enumT {X : Cx} {e : Expr} {ta : TA} {p pos tpos : Pos} {elts : List Expr} {kk : Nat} (hg : Gl X "enumerate") (hm : X.mg "enumerate" = none) (ha : PA X [e] ta) (hs : starEach [e] X.env = [(false, eval e X.env)] := by rfl) :
    PI X (.Tuple elts kk tpos) (.Call (.Name "enumerate" p) [e] [] pos) (iEnumT X.K ta) := by
  refine ⟨fun pins s σ H R I h => ?_⟩
  refine Call_ (ld_blt I hg hm boot_enumerate (PyProof.Rows.callWith_type1 (thn (ha.run pos pins s σ H _ I h) fun us s1 ⟨vs, H1, I1, r1, q1⟩ => ?_) hs rfl))
  obtain ⟨a, xs, ex, hq, q⟩ := q1
  subst ex
  cases r1 with
  | cons r rr =>
    cases rr
    cases r
    obtain ⟨its, rv, p', hz⟩ := I1.tuple hq
    have pt : s1.heap.IsTuple a its.toArray := p'
    have la : a < s1.heap.objs.size := by
      obtain ⟨_, e, _⟩ := id pt
      exact Heap.lt_size e
    refine call_enumT pt fun h' he hit hsz hk => wpAny_pyIter_enum he ?_
    have I2 : Inv X pins σ H1 { s1 with heap := h' } := I1.kept (t' := s1.toks) hk
    refine ⟨s1.heap.objs.size + 1, [s1.heap.objs.size + 1, s1.heap.objs.size], _, _, H1, rfl, I2, turn_enumT a (s1.heap.objs.size + 1) s1.heap.objs.size, ⟨⟨.none, he⟩, hit, Nat.succ_ne_self _, Nat.ne_of_lt la, Nat.ne_of_lt (Nat.lt_succ_of_lt la)⟩, fun b hb => ?_, q⟩
    have e' : b = s1.heap.objs.size + 1 ∨ b = s1.heap.objs.size := by simpa using hb
    have hle : s1.heap.objs.size ≤ b := by
      rcases e' with z | z
      · rw [z]; exact Nat.le_add_right _ _
      · rw [z]; exact Nat.le_refl _
    exact I1.fpOk hle (I1.hok.fresh hle)
theorem walk_enumT {K : PySem.W.Frag} {a : Addr} {xs : List V} : Walk (IteT K a) xs.length (fun H => SqT K H a xs) (YPair (fun i => some (.int (i : Nat))) (fun i => xs[i]?)) :=
  ⟨fun i _ hi q => ⟨xs, xs[i], q, by simp [hi]⟩, fun _ q => ⟨xs, q, rfl⟩, fun i H v H' _ q y => by
    obtain ⟨T, x, h1, h2, h3, h4⟩ := y
    exact ⟨T, .int (i : Nat), x, h1, h2, h3, rfl, h4 xs q⟩⟩
/-! ### zip(list, tuple) -/
def ItzLT (K : PySem.W.Frag) (a b : Addr) : It :=
  ⟨fun i H => ∃ (xs ys : List V) (x y : V), SqL K H a xs ∧ SqT K H b ys ∧ xs[i]? = some x ∧ ys[i]? = some y ∧ xs.length = ys.length,
    fun i H v H' => ∃ T x y, v = .ref T ∧ H T = none ∧ H' = upd H T (.tup [x, y]) ∧ (∀ xs, SqL K H a xs → xs[i]? = some x) ∧ ∀ ys, SqT K H b ys → ys[i]? = some y,
    fun i H => ∃ xs ys : List V, SqL K H a xs ∧ SqT K H b ys ∧ xs.length = i ∧ ys.length = i⟩
theorem turn_zipLT {P : Program} {w : World} {K : PySem.W.Frag} {elts : List Expr} {kk : Nat} {tpos : Pos} {a b z TI TO i1 i2 : Addr} (D : ZipSep2 z TI TO i1 i2 [i1, a] [i2, b]) :
    Turn P w K (.Tuple elts kk tpos) (ItzLT K a b) [z, TI, TO, i1, i2] z (fun i h => IsZip h z TI TO .none ∧ IsPair h TI (.ref i1) (.ref i2) ∧ (∃ x y, IsPair h TO x y) ∧ h.IsListIter i1 a i ∧ h.IsTupleIter i2 b i ∧ a ≠ i1 ∧ b ≠ i2) where
  mem := by simp
  obj := fun i h st c hc => by
    obtain ⟨hz, hTI, ⟨x, y, hTO⟩, ⟨o1, e1, _, d1⟩, ⟨o2, e2, _, d2⟩, _⟩ := st
    have e' : c = z ∨ c = TI ∨ c = TO ∨ c = i1 ∨ c = i2 := by simpa using hc
    rcases e' with q | q | q | q | q
    · rw [q]; exact ⟨_, hz, fun v q => nomatch q⟩
    · rw [q]; exact ⟨_, hTI, fun v q => nomatch q⟩
    · rw [q]; exact ⟨_, hTO, fun v q => nomatch q⟩
    · rw [q]; exact ⟨o1, e1, fun v q => by rw [d1] at q; cases q⟩
    · rw [q]; exact ⟨o2, e2, fun v q => by rw [d2] at q; cases q⟩
  keep := fun i h h' st k => by
    obtain ⟨hz, hTI, ⟨x, y, hTO⟩, h1, h2, h3⟩ := st
    exact ⟨k z (by simp) _ hz, k TI (by simp) _ hTI, ⟨x, y, k TO (by simp) _ hTO⟩, h1.at fun o q => k i1 (by simp) o q, h2.at fun o q => k i2 (by simp) o q, h3⟩
  item := by
    intro X hP hw hK hc i pins s σ H E I hf st hg
    subst hP hw hK
    obtain ⟨hz, hTI, ⟨x0, y0, hTO⟩, h1, h2, n1, n2⟩ := st
    obtain ⟨xs, ys, x, y, hqx, hqy, hx, hy, _⟩ := hg
    obtain ⟨its, rv, p, _⟩ := I.list hqx
    obtain ⟨its2, rv2, p2, _⟩ := I.tuple hqy
    obtain ⟨u, hu, ru⟩ := rv.get hx
    obtain ⟨u2, hu2, ru2⟩ := rv2.get hy
    have hzl : z < s.heap.objs.size := Heap.lt_size hz
    have l1 : i < its.toArray.size := by
      have := (List.getElem?_eq_some_iff.mp hu).1
      simpa using this
    have l2 : i < its2.toArray.size := by
      have := (List.getElem?_eq_some_iff.mp hu2).1
      simpa using this
    refine wpAny_pyNext_zipD2_item D (Draws.list (A := X.A.in1) (I.ok.hd hc) i1 a n1 its.toArray) (Draws.tuple (A := X.A.in1) (I.ok.hd hc) i2 b n2 its2.toArray) hz hTI hTO ⟨h1, p.isList⟩ ⟨h2, p2⟩ l1 l2 fun v1 v2 h' tk hv1 hv2 z' TO' s1' s2' hT hsz hk => ?_
    have ev1 : u = v1 := by
      have hv1' : its[i]? = some v1 := by simpa using hv1
      rw [hu] at hv1'
      exact Option.some.inj hv1'
    have ev2 : u2 = v2 := by
      have hv2' : its2[i]? = some v2 := by simpa using hv2
      rw [hu2] at hv2'
      exact Option.some.inj hv2'
    subst ev1 ev2
    refine ⟨_, rfl, wpAny_letOwnedTupleGo_zip (s := { s with heap := h', toks := tk }) z' fun h'' z'' sb => ?_⟩
    have hT2 : h''.get? s.heap.objs.size = some { cls := .type "tuple", data := .seq #[u, u2] } := (sb.2 _ (Nat.ne_of_gt hzl)).trans hT
    have new : ObjOk X.prog X.w (upd H s.heap.objs.size (.tup [x, y])) h'' s.heap.objs.size (.tup [x, y]) :=
      ⟨by show 2 ≤ sizeLine; decide, [u, u2], .cons ru (.cons ru2 .nil), ⟨_, hT2, rfl, _, rfl⟩⟩
    have I1 : Inv X pins σ (upd H s.heap.objs.size (.tup [x, y])) { s with heap := h'', toks := tk } :=
      I.turnedNew (t' := tk) (ch := [z, TI, TO, i1, i2]) (fun c o hb q => (sb.2 c (fun q' => hb (by simp [q']))).trans (hk c o (fun q' => hb (by simp [q'])) (fun q' => hb (by simp [q'])) (fun q' => hb (by simp [q'])) (fun q' => hb (by simp [q'])) q)) hf (Nat.le_refl _) new
    refine ⟨.ref s.heap.objs.size, _, I1, rfl, ⟨_, x, y, rfl, I.hok.fresh (Nat.le_refl _), rfl, fun l hl => by rw [I.list_inj hl hqx]; exact hx, fun l hl => by rw [I.tuple_inj hl hqy]; exact hy⟩, ⟨z'', ?_, ⟨u, u2, ?_⟩, ?_, ?_, n1, n2⟩, fun c hcm => ?_⟩
    · exact (sb.2 _ D.TIz).trans (hk _ _ D.TIz D.TITO D.TIi1 D.TIi2 hTI)
    · exact (sb.2 _ D.TOz).trans TO'
    · exact s1'.1.at fun o q => (sb.2 _ D.zi1.symm).trans q
    · exact s2'.1.at fun o q => (sb.2 _ D.zi2.symm).trans q
    · have hlt : c < s.heap.objs.size := by
        have e' : c = z ∨ c = TI ∨ c = TO ∨ c = i1 ∨ c = i2 := by simpa using hcm
        rcases e' with q | q | q | q | q
        · rw [q]; exact hzl
        · rw [q]; exact Heap.lt_size hTI
        · rw [q]; exact Heap.lt_size hTO
        · rw [q]; obtain ⟨_, e1, _⟩ := h1; exact Heap.lt_size e1
        · rw [q]; obtain ⟨_, e2, _⟩ := h2; exact Heap.lt_size e2
      rw [upd_ne (Nat.ne_of_lt hlt)]
      exact (hf c hcm).1
  done := by
    intro X hP hw hK hc i pins s σ H E I hf st hg
    subst hP hw hK
    obtain ⟨hz, hTI, ⟨x0, y0, hTO⟩, h1, h2, n1, n2⟩ := st
    obtain ⟨xs, ys, hqx, hqy, e1, e2⟩ := hg
    obtain ⟨its, rv, p, _⟩ := I.list hqx
    obtain ⟨its2, rv2, p2, _⟩ := I.tuple hqy
    have l1 := rv.length
    have l2 := rv2.length
    have z1 : i = its.toArray.size := by rw [List.size_toArray]; omega
    have z2 : i = its2.toArray.size := by rw [List.size_toArray]; omega
    exact wpAny_pyNext_zipD2_end D (Draws.list (A := X.A.in1) (I.ok.hd hc) i1 a n1 its.toArray) (Draws.tuple (A := X.A.in1) (I.ok.hd hc) i2 b n2 its2.toArray) hz hTI hTO ⟨h1, p.isList⟩ ⟨h2, p2⟩ (by omega) (by omega) (.inl z1) fun h' tk hk => ⟨rfl, I.turnedL (t' := tk) (ch := [z, TI, TO, i1, i2]) (fun c o hb q =>
      hk c o (fun q' => hb (by simp [q'])) (fun q' => hb (by simp [q'])) (fun q' => hb (by simp [q'])) (fun q' => hb (by simp [q'])) q) hf⟩
  self := fun A i s Q E st h => wpAny_pyIter_zip st.1 h
def iZipLT (K : PySem.W.Frag) (ta : TA) : TI := fun σ H R => ta σ H fun vs H1 => ∃ a b xs ys, vs = [.ref a, .ref b] ∧ SqL K H1 a xs ∧ SqT K H1 b ys ∧ R (ItzLT K a b) H1
theorem pi_zipLT {X : Cx} {e e2 : Expr} {ta : TA} {p pos tpos : Pos} {elts : List Expr} {kk : Nat} (hg : Gl X "zip") (hm : X.mg "zip" = none) (ha : PA X [e, e2] ta)
    (hs : starEach [e, e2] X.env = (false, eval e X.env) :: starEach [e2] X.env := by rfl) (hpl : (backTo pos (starEach [e2] X.env)).any (·.1) = false := by rfl) :
    PI X (.Tuple elts kk tpos) (.Call (.Name "zip" p) [e, e2] [] pos) (iZipLT X.K ta) := by
  refine ⟨fun pins s σ H R I h => ?_⟩
  refine Call_ (ld_blt I hg hm PyProof.Rows.boot_zip (PyProof.Rows.callWith_type1 (thn (ha.run pos pins s σ H _ I h) fun us s1 ⟨vs, H1, I1, r1, q1⟩ => ?_) hs hpl))
  obtain ⟨a, b, xs, ys, ex, hqx, hqy, q⟩ := q1
  subst ex
  cases r1 with
  | cons r rr =>
    cases rr with
    | cons r' rr =>
      cases rr
      cases r
      cases r'
      obtain ⟨its, rv, p1, _⟩ := I1.list hqx
      obtain ⟨its2, rv2, p2, _⟩ := I1.tuple hqy
      have pt : s1.heap.IsTuple b its2.toArray := p2
      have la : a < s1.heap.objs.size := p1.lt
      have lb : b < s1.heap.objs.size := by
        obtain ⟨_, e, _⟩ := id pt
        exact Heap.lt_size e
      refine zip_begins2 (begins_list a its.toArray) (begins_tuple b its2.toArray) p1.isList pt fun h' hz hTI hTO h1 h2 hsz hk => wpAny_pyIter_zip hz ?_
      have I2 : Inv X pins σ H1 { s1 with heap := h' } := I1.kept (t' := s1.toks) hk
      refine ⟨s1.heap.objs.size + 4, [s1.heap.objs.size + 4, s1.heap.objs.size + 2, s1.heap.objs.size + 3, s1.heap.objs.size, s1.heap.objs.size + 1], _, _, H1, rfl, I2, turn_zipLT (zip_sep2 (fp1 := [a]) (fp2 := [b]) (fun x hx => by rw [List.mem_singleton.mp hx]; exact la) (fun x hx => by rw [List.mem_singleton.mp hx]; exact lb)), ⟨hz, hTI, ⟨_, _, hTO⟩, ⟨_, h1, rfl, rfl⟩, ⟨_, h2, rfl, rfl⟩, Nat.ne_of_lt la, Nat.ne_of_lt (Nat.lt_succ_of_lt lb)⟩, fun c hcm => ?_, q⟩
      have e' : c = s1.heap.objs.size + 4 ∨ c = s1.heap.objs.size + 2 ∨ c = s1.heap.objs.size + 3 ∨ c = s1.heap.objs.size ∨ c = s1.heap.objs.size + 1 := by simpa using hcm
      have hle : s1.heap.objs.size ≤ c := by
        rcases e' with z | z | z | z | z
        · rw [z]; exact Nat.le_add_right _ _
        · rw [z]; exact Nat.le_add_right _ _
        · rw [z]; exact Nat.le_add_right _ _
        · rw [z]; exact Nat.le_refl _
        · rw [z]; exact Nat.le_add_right _ _
      exact I1.fpOk hle (I1.hok.fresh hle)
theorem walk_zipLT {K : PySem.W.Frag} {a b : Addr} {xs ys : List V} (hl : xs.length = ys.length) : Walk (ItzLT K a b) xs.length (fun H => SqL K H a xs ∧ SqT K H b ys) (YPair (fun i => xs[i]?) (fun i => ys[i]?)) :=
  ⟨fun i _ hi q => ⟨xs, ys, xs[i], ys[i]'(by omega), q.1, q.2, by simp [hi], by simp [show i < ys.length by omega], hl⟩, fun _ q => ⟨xs, ys, q.1, q.2, rfl, hl.symm⟩, fun i H v H' _ q y => by
    obtain ⟨T, x, y, h1, h2, h3, h4, h5⟩ := y
    exact ⟨T, x, y, h1, h2, h3, h4 xs q.1, h5 ys q.2⟩⟩
end K20
end
section
set_option linter.all false
set_option maxRecDepth 100000
set_option maxHeartbeats 4000000
set_option autoImplicit false
namespace K20
open PySem PySem.Spec PyProof.Rows L2 LamX NdefX PySem.W
section
variable {m : Md} {K : PySem.W.Frag} {w : World} {σ : L2.St} {H H' : Hp} {ta tb te tx tl : TE} {t u tt : TT} {x y z v : V} {r r1 r2 : Dx} {a b c : PyData} {D : Ends} {tu tw tz : TS} {g : TG}
/-- t * k -/
theorem ev_repU {ds : List PyData} {n : Nat} (ha : EvD m K ta σ H (.d (.tuple ds))) (hb : EvD m K tb σ H (.d (.int (n : Int)))) (hne : ds ≠ []) (hn : n ≤ 1000) (hl : ds.length ≤ 1000) : EvD m K (tOp (rRepU K) ta tb) σ H (.d (.tuple (List.replicate n ds).flatten)) := ev_opG ha hb fun x y H1 e i1 i2 Q q => by
  obtain ⟨p, xs, rfl, g1, g2⟩ := dp_tup i1
  rw [dp_int i2]
  have el := dpAll_len g2
  refine ⟨p, (n : Int), xs, rfl, rfl, sqT_mono vw_same g1, fun h => hne ((nil_iff g2).mp h), by omega, by omega, by omega, fun h1 => ?_, fun l hl => ?_⟩
  · have h1' : n = 1 := by omega
    subst h1'
    refine q _ H1 (R.refl e.ok) (.tup g1 ?_)
    rw [List.replicate_one, List.flatten_cons, List.flatten_nil, List.append_nil]
    exact g2
  · rw [Int.toNat_natCast]
    have r1 : m.R H1 (upd H1 l (.tup (List.replicate n xs).flatten)) := R.new e.ok hl
    exact q _ _ r1 (.tup (SqT.of (vw_upd e.ok hl rfl)) (DpAll.mono r1.ex _ _ (dpAll_reps g2 n)))
theorem ev_inDT {d : PyData} {ds : List PyData} (ha : EvD m K ta σ H (.d d)) (hb : EvD m K tb σ H (.d (.tuple ds))) (s1 : SeqAt.shaped d = true) (s2 : SeqAt.shaped (.tuple ds) = true) : EvD m K (tOp (rInDT K) ta tb) σ H (.d (.bool (ds.any fun z => PyData.eqv z d))) := ev_opG ha hb fun x y H1 e i1 i2 Q q =>
  ⟨d, ds, Dp.mono vw_same _ _ i1, Dp.mono vw_same _ _ i2, s1, s2, q _ H1 (R.refl e.ok) (.bl _)⟩
theorem es_minT {ds : List PyData} (h : EvD m K te σ H (.rl ds)) (hne : ds ≠ []) (hA : AlikeAll ds) (hz : PyData.depthAll ds ≤ 64) : EvS m K (tCB (rMinT K) (tCons te tNil)) σ H (fun r => ∃ d, r = .d d ∧ d ∈ ds) := fun H1 e Q q => h H1 e _ fun v H2 e2 i2 => by
  obtain ⟨p, xs, rfl, g1, g2⟩ := rl_at i2
  cases ds with
  | nil => exact absurd rfl hne
  | cons d ds =>
    refine ⟨p, xs, d, ds, rfl, g1, DpAll.mono vw_same _ _ g2, hA, hz, fun i x hx => ?_⟩
    obtain ⟨y, h1, h2⟩ := dpAll_get g2 hx
    exact q _ _ H2 e2 ⟨y, rfl, List.mem_of_getElem? h1⟩ h2
theorem ev_sumT {ns : List Int} (h : EvD m K te σ H (.d (dInts ns))) : EvD m K (tCB (rSumT K) (tCons te tNil)) σ H (.d (.int ns.sum)) := ev_cb (ea_cons h ea_nil) fun H1 vs e j Q q => by
  obtain ⟨v, rfl, j1⟩ := isAll1 j
  obtain ⟨p, xs, rfl, g1, g2⟩ := dp_tup j1
  have ex := dpAll_ints g2
  subst ex
  exact ⟨p, ns, rfl, sqT_mono vw_same g1, q _ H1 (R.refl e.ok) (.int _)⟩
end
/-! ### tuples made here -/
def tTupN (t : TA) : TE := fun σ H Q => t σ H fun xs H1 => xs.length ≤ sizeLine ∧ ∀ p o, H1 p = none → o.dict = none → Q (.ref p) (upd H1 p (.frz o (.tup xs)))
def rCatN (K : PySem.W.Frag) : R2 := fun x y H Q => ∃ a b xs ys, x = .ref a ∧ y = .ref b ∧ SqT K H a xs ∧ SqT K H b ys ∧ xs.length + ys.length ≤ sizeLine ∧
  (xs = [] → Q (.ref b) H) ∧ (xs ≠ [] → ys = [] → Q (.ref a) H) ∧ (xs ≠ [] → ys ≠ [] → ∀ p o, H p = none → o.dict = none → Q (.ref p) (upd H p (.frz o (.tup (xs ++ ys)))))
def tBMN (r : V → List V → Hp → VK → Prop) (to : TE) (t : TA) : TE := fun σ H Q => to σ H fun x H1 => (∃ a o xs, x = .ref a ∧ H1 a = some (.frz o (.tup xs)) ∧ o.dict = none) ∧ t σ H1 fun xs H2 => r x xs H2 Q
section
variable {X : Cx}
theorem pe_tupN {es : List Expr} {t : TA} {x1} {pos : Pos} (h : PA X es t) : PE X (.Tuple es x1 pos) (tTupN t) := by
  refine ⟨fun pins s σ H Q I hq => ?_⟩
  refine wpAny_Tuple_spliced (thn (h.run pos pins s σ H _ I hq) fun us s1 ⟨xs, H1, I1, r, z, q⟩ => ⟨by rw [← r.length]; exact z, ?_⟩)
  have hf : H1 s1.heap.objs.size = none := I1.hok.fresh (Nat.le_refl _)
  refine ⟨.ref s1.heap.objs.size, upd H1 s1.heap.objs.size (.frz { cls := .type "tuple", data := .seq us.toArray } (.tup xs)), I1.laid (t' := s1.toks) (fun b u e => Heap.get?_push_of_some _ e) (Nat.le_refl _) ?_, rfl, q _ _ hf rfl⟩
  exact ⟨Heap.get?_push_size _ rfl, z, us, r, ⟨_, Heap.get?_push_size _ rfl, rfl, _, rfl⟩⟩
theorem op_catN : OpR X (binaryOp .Add) (rCatN X.K) := by
  intro pins s σ H x y v u Q I rx ry h
  obtain ⟨a, b, xs, ys, rfl, rfl, ha, hb, hz, q0, q1, q2⟩ := h
  by_cases hx : xs = []
  · exact op_catA pins s σ H _ _ v u Q I rx ry ⟨a, b, xs, ys, rfl, rfl, ha, hb, hz, q0, fun z => absurd hx z, fun z => absurd hx z⟩
  · cases rx
    cases ry
    obtain ⟨its, r1, p1, _⟩ := I.tuple ha
    obtain ⟨its2, r2, p2, _⟩ := I.tuple hb
    refine HT.cat_tup p1 p2 (fun z => hx (r1.nil_iff.mp z)) (fun z => ⟨.ref a, H, I, rfl, q1 hx (r2.nil_iff.mp z)⟩) (fun z => ?_) (by rw [← r1.length, ← r2.length]; exact hz)
    refine ⟨.ref s.heap.objs.size, _, I.laid (t' := s.toks) (o := .frz { cls := .type "tuple", data := .seq (its ++ its2).toArray } (.tup (xs ++ ys))) (fun b ob q => Heap.get?_push_of_some _ q) (Nat.le_refl _) ?_, rfl, q2 hx (fun w => z (r2.nil_iff.mpr w)) _ _ (I.hok.fresh (Nat.le_refl _)) rfl⟩
    exact ⟨Heap.get?_push_size _ rfl, by rw [List.length_append]; exact hz, _, r1.append r2, IsTup.new _ _⟩
theorem pe_bmN {o e : Expr} {es : List Expr} {to : TE} {t : TA} {name : Str} {apos cpos : Pos} {id : String} {r : V → List V → Hp → VK → Prop} (slot : Slot "tuple" name id) (hty : typeOf (.builtin id) = pure (.type "method_descriptor")) (hm : MtR X id r) (ho : PE X o to) (ha : PA X (e :: es) t)
    (hbase : attributeBase o name X.env (eval o X.env) = eval o X.env := by rfl)
    (hfew : ((backTo cpos (starEach (e :: es) X.env)).all (fun x => !x.1) && (backToKw cpos (keywordEach [] X.env)).all (fun x => x.1.isSome)
      && decide ((e :: es).length + ([] : List Keyword).length + (if ([] : List Keyword).isEmpty then 0 else 1) < 30)) = true := by rfl)
    (hline : (apos.endLine == cpos.line) = true := by rfl) (hs : starEach (e :: es) X.env = (false, eval e X.env) :: starEach es X.env := by rfl) (hplain : (backTo cpos (starEach es X.env)).any (·.1) = false := by rfl) :
    PE X (.Call (.Attribute o name apos) (e :: es) [] cpos) (tBMN r to t) := by
  refine ⟨fun pins s σ H Q I h => ?_⟩
  refine wpAny_Call_method_late hbase hfew hline rfl (thn (ho.run pins s σ H _ I h) fun v s1 ⟨x, H1, I1, r1, ty, q1⟩ => ?_)
  obtain ⟨a, ob, xs, rfl, hka, hd⟩ := ty
  cases r1
  obtain ⟨h1, _, its, rv, o2, ho2, hc2, n, hd2⟩ := I1.hok a _ hka
  rw [h1] at ho2
  cases ho2
  refine ⟨"tuple", id, F.plainAttrs_tuple, slot, hty, ⟨ob, h1, hc2⟩, (fun a' e' => by cases e'; exact ⟨ob, h1, hd⟩), ?_⟩
  have hA := ha.run cpos pins s1 σ H1 _ I1 q1
  rw [hs] at hA ⊢
  refine Calls.callWith_builtin (by show (false || (backTo cpos (starEach es X.env)).any (·.1)) = false; rw [hplain] <;> rfl) (Calls.evalArgs_plain ?_)
  exact thn hA fun us s2 ⟨vs, H2, I2, r2, q2⟩ => hm pins s2 σ H2 (.ref a) vs (.ref a) us Q I2 rfl r2 q2
end
section
variable {m : Md} {K : PySem.W.Frag} {w : World} {σ : L2.St} {H H' : Hp} {ta tb te tx tl : TE} {t u tt : TT} {x y z v : V} {r r1 r2 : Dx} {a b c : PyData} {D : Ends} {tu tw tz : TS} {g : TG}
theorem ev_ntd {xs : List PyData} (h : EvD m K te σ H (.nt xs)) : EvD m K te σ H (.d (.tuple xs)) := fun H1 e Q q => h H1 e Q fun v H2 e2 i => q v H2 e2 i.d_of_nt
theorem ev_tupN {tA : TA} {ds : List PyData} (h : EvA m K tA σ H (ds.map .d)) (hl : ds.length ≤ 100000 := by first | decide | simp) : EvD m K (tTupN tA) σ H (.nt ds) := fun H1 e Q q =>
  h H1 e _ fun vs H2 e2 i2 => ⟨by rw [isAll_len i2, List.length_map]; exact Evl.sz_of hl, fun p o hp hd => by
    have r2 : m.R H2 (upd H2 p (.frz o (.tup vs))) := R.new e2.ok hp
    exact q _ _ (R.trans e2 r2) ⟨p, o, vs, rfl, vw_upd e2.ok hp rfl, hd, DpAll.mono r2.ex _ _ (isAll_dp i2)⟩⟩
/-- any tuple + a tuple made here, not empty -/
theorem ev_catN {ds es : List PyData} (ha : EvD m K ta σ H (.d (.tuple ds))) (hb : EvD m K tb σ H (.nt es)) (hne : es ≠ []) (hl : ds.length + es.length ≤ 100000) : EvD m K (tOp (rCatN K) ta tb) σ H (.nt (ds ++ es)) := ev_opG ha hb fun x y H1 e i1 i2 Q q => by
  obtain ⟨p, xs, rfl, g1, g2⟩ := dp_tup i1
  obtain ⟨p', ob, ys, rfl, g3, g5, g4⟩ := i2
  refine ⟨p, p', xs, ys, rfl, rfl, sqT_mono vw_same g1, .inl (.inr ⟨ob, vw_sub g3⟩), by rw [dpAll_len g2, dpAll_len g4]; exact Evl.sz_of hl, fun h => q _ H1 (R.refl e.ok) ?_, fun _ h => absurd ((nil_iff g4).mp h) hne, fun _ _ l o hl2 hd => ?_⟩
  · have := (nil_iff g2).mp h
    subst this
    exact ⟨p', ob, ys, rfl, g3, g5, g4⟩
  · have r1 : m.R H1 (upd H1 l (.frz o (.tup (xs ++ ys)))) := R.new e.ok hl2
    exact q _ _ r1 ⟨l, o, _, rfl, vw_upd e.ok hl2 rfl, hd, DpAll.mono r1.ex _ _ (dpAll_app g2 g4)⟩
theorem ev_tcount {d : PyData} {ds : List PyData} (ha : EvD m K ta σ H (.nt ds)) (hb : EvD m K tb σ H (.d d)) (p1 : PyData.plainAll ds = true) (p2 : d.plain = true) (hz : d.depth ≤ 64) :
    EvD m K (tBMN (rCntT K) ta (tCons tb tNil)) σ H (.d (.int ((ds.countP fun z => PyData.eqv z d : Nat) : Int))) := fun H1 e Q q => ha H1 e _ fun x H2 e2 i2 => by
  obtain ⟨a, o, xs, rfl, g1, g2, g3⟩ := id i2
  refine ⟨⟨a, o, xs, rfl, vw_sub g1, g2⟩, hb H2 (R.trans e e2) _ fun y H3 e3 i3 => ?_⟩
  exact ⟨a, y, d, ds, rfl, rfl, Dp.mono vw_same _ _ ((i2.mono e3).d_of_nt), Dp.mono vw_same _ _ i3, p1, p2, hz, q _ H3 (R.trans e2 e3) (.int _)⟩
theorem ev_tindex {ns : List Int} {z : Int} {j : Nat} (ha : EvD m K ta σ H (.nt (ns.map .int))) (hb : EvD m K tb σ H (.d (.int z))) (hj : ns[j]? = some z) (hno : ∀ i, i < j → ns[i]? ≠ some z) :
    EvD m K (tBMN (rIdxI K) ta (tCons tb tNil)) σ H (.d (.int (j : Int))) := fun H1 e Q q => ha H1 e _ fun x H2 e2 i2 => by
  obtain ⟨a, o, xs, rfl, g1, g2, g3⟩ := id i2
  refine ⟨⟨a, o, xs, rfl, vw_sub g1, g2⟩, hb H2 (R.trans e e2) _ fun y H3 e3 i3 => ?_⟩
  obtain ⟨a', o', xs', ea, g1', g2', g3'⟩ := i2.mono e3
  cases ea
  have ex := dpAll_ints g3'
  subst ex
  rw [dp_int i3]
  exact ⟨a, ns, z, j, rfl, rfl, .inl (.inr ⟨o', vw_sub g1'⟩), hj, hno, q _ H3 (R.trans e2 e3) (.int _)⟩
/-- len(set(xs)) -/
theorem es_lenSet {w : World} {ns : List Int} (h : EvD m K te σ H (.d (dInts ns))) (hl : ns.length ≤ 1000) : EvS m K (tCB (rLenSet w) (tCons (tCB (rSetT w K) (tCons te tNil)) tNil)) σ H (fun r => ∃ c : Nat, r = .d (.int (c : Int)) ∧ ∀ l : List Int, l.Nodup → (∀ x ∈ l, x ∈ ns) → l.length ≤ c) := fun H1 e Q q => h H1 e _ fun v H2 e2 i2 => by
  obtain ⟨p, xs, rfl, g1, g2⟩ := dp_tup i2
  have ex := dpAll_ints g2
  subst ex
  refine ⟨p, ns, rfl, sqT_mono vw_same g1, hl, fun c s hc hn hs => ?_⟩
  have r2 : m.R H2 (upd H2 s (SetO w s (fun j => decide (j ∈ ns)) c)) := R.new e2.ok hs
  exact ⟨s, _, c, rfl, upd_same, q _ _ _ (R.trans e2 r2) ⟨c, rfl, hn⟩ (.int _)⟩
/-! ### enumerate, zip -/
theorem q_forE {ps : List Addr} {i j : Nat} {ds : List PyData} (k : m.ok H) (h : EvD m K tl σ H (.d (.tuple ds))) (Pv : Nat → L2.St → Hp → Prop) (h0 : ∀ H1, m.R H H1 → Pv 0 σ H1)
    (hs : ∀ H1 n d v σ' H0 H', ds[n]? = some d → m.R H H1 → m.W ps H1 H0 → m.R H0 H' → Pv n σ' H0 → Is m K H' v (.d d) → tu { D with nx := Nx m ps H1 (Pv (n + 1)), ct := Nx m ps H1 (Pv (n + 1)), bk := tz D } ((σ'.set i (some (.int (n : Int)))).set j (some v)) H')
    (hd : ∀ σ' H', m.W ps H H' → Pv ds.length σ' H' → tz D σ' H') : tSeq (tFor (iEnumT K (tCons tl tNil)) (gTup K 2 (gCons (gName i) (gCons (gName j) gNil))) tu) tz D σ H := h H (R.refl k) _ fun v H1 e1 i1 => by
  obtain ⟨p, xs, rfl, g1, g2⟩ := dp_tup i1
  have el := dpAll_len g2
  refine ⟨p, xs, rfl, sqT_mono vw_same g1, ?_⟩
  refine ⟨fun n k σ' H' => k = xs.length - n ∧ n ≤ xs.length ∧ m.W ps H1 H' ∧ Pv n σ' H', ⟨xs.length, rfl, Nat.zero_le _, W.refl e1.ok, h0 H1 e1⟩, ?_⟩
  rintro n k' σ' H' ⟨rfl, hn, w1, pv⟩
  have g1' : SqT K H' p xs := sqT_mono (w1.ex.trans vw_same) g1
  by_cases hlt : n < xs.length
  · refine .inr ⟨⟨xs, _, g1', List.getElem?_eq_getElem hlt⟩, Nx m ps H1 (Pv (n + 1)), fun σ3 H3 q => ⟨xs.length - (n + 1), by omega, rfl, hlt, q.1, q.2⟩, fun x H2 y => ?_⟩
    obtain ⟨T, x2, rfl, hT, rfl, hx⟩ := y
    have hx' := hx xs g1'
    obtain ⟨d, hd1, hd2⟩ := dpAll_get g2 hx'
    have r2 : m.R H' (upd H' T (.tup [.int (n : Int), x2])) := R.new w1.ok hT
    have i2 : Dp K (m.vw (upd H' T (.tup [.int (n : Int), x2]))) x2 d := Dp.mono (w1.ex.trans r2.ex) _ _ hd2
    exact ⟨T, _, rfl, .inl (.inl upd_same), rfl, _, _, rfl, _, _, rfl, rfl, hs H1 n d x2 σ' H' _ hd1 e1 w1 r2 pv i2⟩
  · have en : n = xs.length := by omega
    subst en
    exact .inl ⟨⟨xs, g1', rfl⟩, hd σ' H' (W.trans (R.w e1) w1) (by rw [← el]; exact pv)⟩
/-- a <= b, tuples of ints -/
theorem ev_leT {ns ms : List Int} (ha : EvD m K ta σ H (.d (dInts ns))) (hb : EvD m K tb σ H (.d (dInts ms))) : EvD m K (tOp (rLeT K) ta tb) σ H (.d (.bool (Ob.lexAt (fun j => decide (ns.getD j 0 = ms.getD j 0)) (fun j => decide (ns.getD j 0 ≤ ms.getD j 0)) (decide (ns.length ≤ ms.length)) 0 (min ns.length ms.length)))) := ev_opG ha hb fun x y H1 e i1 i2 Q q => by
  obtain ⟨p, xs, rfl, g1, g2⟩ := dp_tup i1
  obtain ⟨p', ys, rfl, g3, g4⟩ := dp_tup i2
  have e1 := dpAll_ints g2
  have e2 := dpAll_ints g4
  subst e1 e2
  exact ⟨p, p', ns, ms, rfl, rfl, sqT_mono vw_same g1, sqT_mono vw_same g3, q _ H1 (R.refl e.ok) (.bl _)⟩
theorem lex_pair {a b c d : Int} (h : c < a ∨ (c = a ∧ d < b)) : Ob.lexAt (fun j => decide (([a, b] : List Int).getD j 0 = ([c, d] : List Int).getD j 0)) (fun j => decide (([a, b] : List Int).getD j 0 ≤ ([c, d] : List Int).getD j 0)) (decide (([a, b] : List Int).length ≤ ([c, d] : List Int).length)) 0 2 = false := by
  rw [Ob.lexAt_succ, Ob.lexAt_succ, Ob.lexAt_zero]
  show (if decide (a = c) = true then (if decide (b = d) = true then _ else decide (b ≤ d)) else decide (a ≤ c)) = false
  rcases h with h | ⟨rfl, h⟩
  · rw [if_neg (by rw [decide_eq_true_eq]; omega), decide_eq_false (by omega)]
  · rw [if_pos (by rw [decide_eq_true_eq]), if_neg (by rw [decide_eq_true_eq]; omega), decide_eq_false (by omega)]
end
end K20
end
section
set_option linter.all false
set_option maxRecDepth 100000
set_option maxHeartbeats 4000000
set_option autoImplicit false
namespace K20
open PySem PySem.Spec PyProof.Rows L2 LamX NdefX
/-! ### steps that hide and write hidden objects: those of B alone stay -/
structure Stp (B : List Addr) (m m' : Md) (H H' : Hp) : Prop where
  ok : m'.ok H'
  ex : Same (m.vw H) (m'.vw H')
  dom : ∀ b, H' b = none → H b = none
  sub : ∀ p ∈ m.lo, p ∈ m'.lo
  new : ∀ p ∈ m'.lo, p ∉ m.lo → H p = none
  keep : ∀ p ∈ B, p ∈ m.lo → H' p = H p
  hd : m'.hd = m.hd
  T : m'.T = m.T
section
variable {B : List Addr} {m m' m'' : Md} {H H' H'' : Hp} {K : PySem.W.Frag} {p : Addr} {o : HO}
theorem Stp.refl (k : m.ok H) : Stp B m m H H := ⟨k, fun _ _ h => h, fun _ h => h, fun _ h => h, fun _ h n => absurd h n, fun _ _ _ => rfl, rfl, rfl⟩
theorem Stp.trans (a : Stp B m m' H H') (b : Stp B m' m'' H' H'') : Stp B m m'' H H'' :=
  ⟨b.ok, a.ex.trans b.ex, fun c h => a.dom c (b.dom c h), fun p h => b.sub p (a.sub p h), fun p h n => by
    by_cases z : p ∈ m'.lo
    · exact a.new p z n
    · exact a.dom p (b.new p h z), fun p hp hm => (b.keep p hp (a.sub p hm)).trans (a.keep p hp hm), b.hd.trans a.hd, b.T.trans a.T⟩
theorem Stp.of_r (r : m.R H H') : Stp B m m H H' := ⟨r.ok, r.ex, r.dom, fun _ h => h, fun _ h n => absurd h n, fun p _ hm => R.lo r hm, rfl, rfl⟩
theorem Stp.then_r (a : Stp B m m' H H') (r : m'.R H' H'') : Stp B m m' H H'' := a.trans (Stp.of_r r)
theorem Stp.hide (k : m.ok H) (h : H p = none) (ht : isTbl o = false := by rfl) (hx : NC p o := by exact nc_of rfl) : Stp B m (m.hide p) H (upd H p o) :=
  ⟨hide_ok k h ht hx, hide_vw k h, fun b e => by
    by_cases z : b = p
    · rw [z]; exact h
    · rw [upd_ne z] at e; exact e, fun q hq => List.mem_cons_of_mem _ hq, fun q hq n => by
    rcases List.mem_cons.mp hq with z | z
    · rw [z]; exact h
    · exact absurd z n, fun q _ hq => by
    obtain ⟨u, e, _⟩ := k.lo q hq
    exact upd_ne (ne_of_none e h), rfl, rfl⟩
theorem Stp.put (k : m.ok H) (hp : p ∈ m.lo) (hB : p ∉ B) (ht : isTbl o = false := by rfl) (hx : NC p o := by exact nc_of rfl) : Stp B m m H (upd H p o) := by
  have w : m.W [p] H (upd H p o) := W.put k hp (List.mem_cons_self ..) ht hx
  exact ⟨w.ok, w.ex, w.dom, fun _ h => h, fun _ h n => absurd h n, fun q hq _ => upd_ne fun z => hB (z ▸ hq), rfl, rfl⟩
/-- from a function's start -/
theorem Stp.r (a : Stp m.lo m m' H H') : m.R H H' := by
  refine ⟨⟨by rw [← a.T]; exact a.ok.tabs, fun q c l e => a.ok.hand q c l (by rw [a.hd]; exact e), fun q hq => a.ok.lo q (a.sub q hq), fun q hq b c l e => a.ok.apart q (a.sub q hq) b c l (by rw [a.hd]; exact e)⟩, fun b u e => ?_, a.dom, fun q hq _ => a.keep q hq hq⟩
  have e2 := a.ex b u e
  exact vw_of (vw_sub e2) (vw_tbl e2) (vw_at e)
theorem Stp.fix {v : V} {d : Dx} (a : Stp B m m' H H') (h : Is m K H v d) (hd : d.fix = true) : Is m' K H' v d := by
  have e := a.ex
  cases d with
  | d x => exact Dp.mono e _ _ h
  | tl xs =>
    obtain ⟨a, ws, h0, h1, h2⟩ := h
    exact ⟨a, ws, h0, e _ _ h1, DpAll.mono e _ _ h2⟩
  | rl xs => cases hd
  | v x => exact h
  | web ms ts =>
    obtain ⟨a, dx, fs, p, q, h0, h1, h2, h3, h4, h5⟩ := h
    exact ⟨a, dx, fs, p, q, h0, e _ _ h1, h2, h3, Dp.mono e _ _ h4, Dp.mono e _ _ h5⟩
  | uns n nx => exact UnsAt.mono e h
  | kpr n nx => exact KprAt.mono e h
  | hand =>
    obtain ⟨b, c, l, h1, h2⟩ := h
    exact ⟨b, c, l, by rw [a.hd]; exact h1, h2⟩
  | dct kvs =>
    obtain ⟨a, kv, h0, h1, h2⟩ := h
    exact ⟨a, kv, h0, e _ _ h1, Paired.mapP h2 fun p q z => ⟨z.1, Dp.mono e _ _ z.2⟩⟩
  | nt ds => exact NtAt.mono e h
  | prn ds b => exact PrnAt.mono e h
/-- what is known at the start stays -/
theorem Stp.is {v : V} {d : Dx} (a : Stp m.lo m m' H H') (h : Is m K H v d) : Is m' K H' v d := by
  cases hd : d.fix with
  | true => exact a.fix h hd
  | false =>
    cases d with
    | rl xs =>
      obtain ⟨b, ws, h0, h1, h2⟩ := h
      refine ⟨b, ws, h0, ?_, DpAll.mono a.ex _ _ h2⟩
      rcases h1 with h1 | ⟨h1, h3⟩
      · exact .inl (sqL_mono a.ex h1)
      · exact .inr ⟨a.sub b h1, by rw [a.keep b h1 h1]; exact h3⟩
    | _ => cases hd
end
section
variable {B : List Addr} {m m' : Md} {K : PySem.W.Frag} {σ : L2.St} {H H' : Hp} {ta tb te tx tl : TE} {t u tt : TT} {x y z v : V} {r r1 r2 : Dx} {a b c : PyData} {D : Ends} {tu tw tz : TS} {g : TG}
/-- what a turn is to reach, hidden things at will -/
def NxS (B : List Addr) (m : Md) (H1 : Hp) (P : Md → L2.St → Hp → Prop) : L2.St → Hp → Prop := fun σ3 H3 => ∃ m3, Stp B m m3 H1 H3 ∧ P m3 σ3 H3
theorem z_forT {ds : List PyData} (k : m.ok H) (h : EvD m K tl σ H (.d (.tuple ds))) (Pv : Nat → Md → L2.St → Hp → Prop) (h0 : ∀ H1, m.R H H1 → Pv 0 m σ H1)
    (hs : ∀ H1 i d v m' σ' H', ds[i]? = some d → m.R H H1 → Stp B m m' H1 H' → Pv i m' σ' H' → Is m' K H' v (.d d) → g v σ' H' fun σ2 H2 => tu { D with nx := NxS B m H1 (Pv (i + 1)), ct := NxS B m H1 (Pv (i + 1)), bk := tz D } σ2 H2)
    (hd : ∀ m' σ' H', Stp B m m' H H' → Pv ds.length m' σ' H' → tz D σ' H') : tSeq (tFor (iTup K tl) g tu) tz D σ H := h H (R.refl k) _ fun v H1 e1 i1 => by
  obtain ⟨p, xs, rfl, g1, g2⟩ := dp_tup i1
  have el := dpAll_len g2
  refine ⟨p, rfl, ⟨xs, sqT_mono vw_same g1⟩, for_tup (K := K) (a := p) (xs := xs) (D := { D with nx := tz D }) (fun i σ' H' => ∃ m', Stp B m m' H1 H' ∧ Pv i m' σ' H') ⟨m, Stp.refl e1.ok, h0 H1 e1⟩ (fun i σ' H' _ q => ?_) (fun i x σ' H' hx q => ?_) (fun σ' H' q => ?_)⟩
  · obtain ⟨m', s, _⟩ := q
    exact sqT_mono (s.ex.trans vw_same) g1
  · obtain ⟨m', s, pv⟩ := q
    obtain ⟨d, hd1, hd2⟩ := dpAll_get g2 hx
    exact hs H1 i d x m' σ' H' hd1 e1 s pv (Dp.mono s.ex _ _ hd2)
  · obtain ⟨m', s, pv⟩ := q
    exact hd m' σ' H' ((Stp.of_r e1).trans s) (by rw [← el]; exact pv)
theorem z_forL {ds : List PyData} (k : m.ok H) (h : EvD m K tl σ H (.d (.list ds))) (Pv : Nat → Md → L2.St → Hp → Prop) (h0 : ∀ H1, m.R H H1 → Pv 0 m σ H1)
    (hs : ∀ H1 i d v m' σ' H', ds[i]? = some d → m.R H H1 → Stp B m m' H1 H' → Pv i m' σ' H' → Is m' K H' v (.d d) → g v σ' H' fun σ2 H2 => tu { D with nx := NxS B m H1 (Pv (i + 1)), ct := NxS B m H1 (Pv (i + 1)), bk := tz D } σ2 H2)
    (hd : ∀ m' σ' H', Stp B m m' H H' → Pv ds.length m' σ' H' → tz D σ' H') : tSeq (tFor (iList K tl) g tu) tz D σ H := h H (R.refl k) _ fun v H1 e1 i1 => by
  obtain ⟨p, xs, rfl, g1, g2⟩ := dp_lst i1
  have el := dpAll_len g2
  refine ⟨p, rfl, ⟨xs, sqL_mono vw_same g1⟩, for_list (K := K) (a := p) (xs := xs) (D := { D with nx := tz D }) (fun i σ' H' => ∃ m', Stp B m m' H1 H' ∧ Pv i m' σ' H') ⟨m, Stp.refl e1.ok, h0 H1 e1⟩ (fun i σ' H' _ q => ?_) (fun i x σ' H' hx q => ?_) (fun σ' H' q => ?_)⟩
  · obtain ⟨m', s, _⟩ := q
    exact sqL_mono (s.ex.trans vw_same) g1
  · obtain ⟨m', s, pv⟩ := q
    obtain ⟨d, hd1, hd2⟩ := dpAll_get g2 hx
    exact hs H1 i d x m' σ' H' hd1 e1 s pv (Dp.mono s.ex _ _ hd2)
  · obtain ⟨m', s, pv⟩ := q
    exact hd m' σ' H' ((Stp.of_r e1).trans s) (by rw [← el]; exact pv)
theorem z_forR1 {tA : TA} {n : Nat} {j : Nat} (k : m.ok H) (h : EvA m K tA σ H [.d (.int (n : Int))]) (hn : n ≤ 100000) (Pv : Nat → Md → L2.St → Hp → Prop) (h0 : ∀ H1, m.R H H1 → Pv 0 m σ H1)
    (hs : ∀ H1 i m' σ' H', i < n → m.R H H1 → Stp B m m' H1 H' → Pv i m' σ' H' → tu { D with nx := NxS B m H1 (Pv (i + 1)), ct := NxS B m H1 (Pv (i + 1)), bk := tz D } (σ'.set j (some (.int (i : Int)))) H')
    (hd : ∀ m' σ' H', Stp B m m' H H' → Pv n m' σ' H' → tz D σ' H') : tSeq (tFor (iRng1 tA) (gName j) tu) tz D σ H := h H (R.refl k) _ fun vs H1 e1 i1 => by
  obtain ⟨v, rfl, i2⟩ := isAll1 i1
  rw [dp_int i2]
  refine ⟨(n : Int), rfl, by omega, by omega, ?_⟩
  rw [Int.toNat_natCast]
  refine for_range (lo := 0) (n := n) (D := { D with nx := tz D }) (fun i σ' H' => ∃ m', Stp B m m' H1 H' ∧ Pv i m' σ' H') ⟨m, Stp.refl e1.ok, h0 H1 e1⟩ (fun i σ' H' hi q => ?_) (fun σ' H' q => ?_)
  · have e0 : (0 : Int) + (i : Int) = (i : Int) := Int.zero_add _
    show tu _ (σ'.set j (some (.int ((0 : Int) + (i : Int))))) H'
    rw [e0]
    obtain ⟨m', s, pv⟩ := q
    exact hs H1 i m' σ' H' hi e1 s pv
  · obtain ⟨m', s, pv⟩ := q
    exact hd m' σ' H' ((Stp.of_r e1).trans s) pv
/-! ### a list of one's own -/
/-- the hidden list p holds xs -/
def Own (m : Md) (K : PySem.W.Frag) (H : Hp) (p : Addr) (xs : List PyData) : Prop := p ∈ m.lo ∧ ∃ vs, H p = some (.lst vs) ∧ DpAll K (m.vw H) vs xs
theorem Own.rl {p : Addr} {xs : List PyData} (h : Own m K H p xs) : Is m K H (.ref p) (.rl xs) := by
  obtain ⟨hp, vs, h1, h2⟩ := h
  exact Is.rl_of_lo h1 hp h2
theorem Own.go {p : Addr} {xs : List PyData} (e : m.R H H') (h : Own m K H p xs) : Own m K H' p xs := by
  obtain ⟨hp, vs, h1, h2⟩ := h
  exact ⟨hp, vs, by rw [R.lo e hp]; exact h1, DpAll.mono e.ex _ _ h2⟩
/-- x = [..], the list hidden -/
theorem own_new {p : Addr} {vs : List V} {xs : List PyData} (k : m.ok H) (hp : H p = none) (h : DpAll K (m.vw H) vs xs) : Own (m.hide p) K (upd H p (.lst vs)) p xs :=
  ⟨List.mem_cons_self .., vs, upd_same, DpAll.mono (hide_vw k hp) _ _ h⟩
theorem Own.hide {p q : Addr} {o : HO} {xs : List PyData} (k : m.ok H) (hq : H q = none) (h : Own m K H p xs) : Own (m.hide q) K (upd H q o) p xs := by
  obtain ⟨hp, vs, h1, h2⟩ := h
  exact ⟨List.mem_cons_of_mem _ hp, vs, by rw [upd_ne (ne_of_none h1 hq)]; exact h1, DpAll.mono (hide_vw k hq) _ _ h2⟩
/-- another one is written -/
theorem Own.put {p q : Addr} {o : HO} {xs : List PyData} (k : m.ok H) (hq : q ∈ m.lo) (ne : p ≠ q) (h : Own m K H p xs) (ht : isTbl o = false := by rfl) (hx : NC q o := by exact nc_of rfl) : Own m K (upd H q o) p xs := by
  obtain ⟨hp, vs, h1, h2⟩ := h
  have w : m.W [q] H (upd H q o) := W.put k hq (List.mem_cons_self ..) ht hx
  exact ⟨hp, vs, by rw [upd_ne ne]; exact h1, DpAll.mono w.ex _ _ h2⟩
theorem own_put {q : Addr} {vs : List V} {xs : List PyData} (k : m.ok H) (hq : q ∈ m.lo) (h : DpAll K (m.vw H) vs xs) : Own m K (upd H q (.lst vs)) q xs :=
  ⟨hq, vs, upd_same, DpAll.mono (W.put (ps := [q]) (o := .lst vs) k hq (List.mem_cons_self ..)).ex _ _ h⟩
/-- l.append(x) -/
theorem z_append {p : Addr} {xs : List PyData} (k : m.ok H) (h : EvD m K te σ H (.v (.ref p))) (o : Own m K H p xs) (hv : EvD m K tb σ H (.d a)) (hz : xs.length < 100000) (hB : p ∉ B)
    (q : ∀ H1, Stp B m m H H1 → (∀ p2 ys, p2 ≠ p → Own m K H p2 ys → Own m K H1 p2 ys) → Own m K H1 p (xs ++ [a]) → D.nx σ H1) : tDrop (tBM K "list" rAppend te (tCons tb tNil)) D σ H := h H (R.refl k) _ fun v H1 e1 i1 => by
  obtain rfl : v = .ref p := i1
  obtain ⟨hp, vs, h1, h2⟩ := o.go e1
  refine ⟨.inl ⟨rfl, vs, SqL.of h1⟩, hv H1 e1 _ fun y H2 e2 i2 => ?_⟩
  obtain ⟨_, vs', h1', h2'⟩ := o.go (R.trans e1 e2)
  refine ⟨p, vs', y, rfl, rfl, h1', Evl.sz_lt (by have := dpAll_len h2'; omega), ?_⟩
  have e12 := R.trans e1 e2
  exact q _ ((Stp.of_r e12).trans (Stp.put e2.ok hp hB)) (fun p2 ys ne ho => (ho.go e12).put e2.ok hp ne) (own_put e2.ok hp (dpAll_app h2' (.cons i2 .nil)))
/-- l.extend(ys), ys a new list -/
theorem z_extend {p : Addr} {xs ys : List PyData} (k : m.ok H) (h : EvD m K te σ H (.v (.ref p))) (o : Own m K H p xs) (hv : EvD m K tb σ H (.tl ys)) (hz : xs.length + ys.length ≤ 100000) (hB : p ∉ B)
    (q : ∀ H1, Stp B m m H H1 → (∀ p2 zs, p2 ≠ p → Own m K H p2 zs → Own m K H1 p2 zs) → Own m K H1 p (xs ++ ys) → D.nx σ H1) : tDrop (tBM K "list" rExtend te (tCons tb tNil)) D σ H := h H (R.refl k) _ fun v H1 e1 i1 => by
  obtain rfl : v = .ref p := i1
  obtain ⟨hp, vs, h1, h2⟩ := o.go e1
  refine ⟨.inl ⟨rfl, vs, SqL.of h1⟩, hv H1 e1 _ fun y H2 e2 i2 => ?_⟩
  obtain ⟨_, vs', h1', h2'⟩ := o.go (R.trans e1 e2)
  obtain ⟨b, ws, rfl, g1, g2⟩ := i2
  refine ⟨p, b, vs', ws, rfl, rfl, h1', vw_sub g1, by rw [dpAll_len h2', dpAll_len g2]; exact Evl.sz_of hz, ?_⟩
  have e12 := R.trans e1 e2
  exact q _ ((Stp.of_r e12).trans (Stp.put e2.ok hp hB)) (fun p2 ys ne ho => (ho.go e12).put e2.ok hp ne) (own_put e2.ok hp (dpAll_app h2' g2))
/-- x = a new list, hidden from here on -/
theorem z_list {tA : TA} {i : Nat} {xs : List PyData} (h : EvA m K tA σ H (xs.map .d)) (k : m.ok H) (hl : xs.length ≤ 100000 := by first | decide | simp)
    (q : ∀ H0 p vs, m.R H H0 → H0 p = none → Own (m.hide p) K (upd H0 p (.lst vs)) p xs → D.nx (σ.set i (some (.ref p))) (upd H0 p (.lst vs))) : tAsg (tLst tA) (gName i) D σ H := h H (R.refl k) _ fun vs H1 e1 i1 =>
  ⟨by rw [isAll_len i1, List.length_map]; exact Evl.sz_of hl, fun p hp => q H1 p vs e1 hp (own_new e1.ok hp (isAll_dp i1))⟩
/-! ### what is evaluated first, told by a relation -/
theorem ev_cv (h : Is m K H v r) : EvD m K (tC v) σ H r := fun H1 e _ q => q v H1 (R.refl e.ok) (h.mono e)
theorem es_bind {S S' : Dx → Prop} (C : TE → TE) (hC : ∀ te σ H Q, C te σ H Q = te σ H fun v H2 => C (tC v) σ H2 Q) (h : EvS m K te σ H S) (hr : ∀ r v H1, m.R H H1 → S r → Is m K H1 v r → EvS m K (C (tC v)) σ H1 S') : EvS m K (C te) σ H S' := fun H1 e Q q => by
  rw [hC]
  exact h H1 e _ fun r v H2 e2 s i2 => hr r v H2 (R.trans e e2) s i2 H2 (R.refl e2.ok) Q fun r' v' H3 e3 s3 i3 => q r' v' H3 (R.trans e2 e3) s3 i3
theorem ev_bind {S : Dx → Prop} (C : TE → TE) (hC : ∀ te σ H Q, C te σ H Q = te σ H fun v H2 => C (tC v) σ H2 Q) (h : EvS m K te σ H S) (hr : ∀ r v H1, m.R H H1 → S r → Is m K H1 v r → EvD m K (C (tC v)) σ H1 r1) : EvD m K (C te) σ H r1 := fun H1 e Q q => by
  rw [hC]
  exact h H1 e _ fun r v H2 e2 s i2 => hr r v H2 (R.trans e e2) s i2 H2 (R.refl e2.ok) Q fun v' H3 e3 i3 => q v' H3 (R.trans e2 e3) i3
theorem s_bind {S : Dx → Prop} (C : TE → TS) (hC : ∀ te D σ H, C te D σ H = te σ H fun v H2 => C (tC v) D σ H2) (k : m.ok H) (h : EvS m K te σ H S) (q : ∀ r v H1, m.R H H1 → S r → Is m K H1 v r → C (tC v) D σ H1) : C te D σ H := by
  rw [hC]
  exact h H (R.refl k) _ fun r v H1 e s i => q r v H1 e s i
theorem EvD.es (h : EvD m K te σ H r) : EvS m K te σ H (fun x => x = r) := h.s rfl
/-- [.. for any target in a tuple if ..] -/
theorem ev_lcTG {vs : List Nat} {ds : List PyData} (p : PyData → Bool) (f : PyData → PyData) (h : EvD m K tl σ H (.d (.tuple ds))) (hz : ds.length ≤ 40000)
    (hs : ∀ m' H' d v, d ∈ ds → Into m m' K H H' → Is m' K H' v (.d d) → ∀ Q : L2.St → Hp → Prop, (∀ σ2, wipe σ2 vs = wipe σ vs → EvT m' tt σ2 H' (p d) → (p d = true → EvD m' K te σ2 H' (.d (f d))) → Q σ2 H') → g v (wipe σ vs) H' Q) :
    EvD m K (tLc (iTup K tl) g tt te vs) σ H (.tl ((ds.filter p).map f)) := fun H1 e Q q => es_lcT (fun i ys => ys = ((ds.take i).filter p).map f) h hz rfl (fun m' H' i d v ys hd I hi a Q2 q2 => hs m' H' d v (List.mem_of_getElem? hd) I hi Q2 fun σ2 hw t1 t2 => q2 σ2 hw
    (TurnOk.det t1 t2 (fun hp => by
      show ys = _
      rw [a, List.take_add_one, hd, List.filter_append]
      show _ = ((ds.take i).filter p ++ [d].filter p).map f
      rw [List.filter_cons, if_neg (by rw [hp]; decide), List.filter_nil, List.append_nil]) (fun hp => by
      show ys ++ [f d] = _
      rw [a, List.take_add_one, hd, List.filter_append]
      show _ = ((ds.take i).filter p ++ [d].filter p).map f
      rw [List.filter_cons, if_pos hp, List.filter_nil, List.map_append] <;> rfl))) H1 e Q fun r v H2 e2 hr i2 => by
    obtain ⟨ys, rfl, a⟩ := hr
    rw [List.take_length] at a
    rw [a] at i2
    exact q v H2 e2 i2
theorem ev_lcLG {vs : List Nat} {ds : List PyData} (p : PyData → Bool) (f : PyData → PyData) (h : EvD m K tl σ H (.d (.list ds))) (hz : ds.length ≤ 40000)
    (hs : ∀ m' H' d v, d ∈ ds → Into m m' K H H' → Is m' K H' v (.d d) → ∀ Q : L2.St → Hp → Prop, (∀ σ2, wipe σ2 vs = wipe σ vs → EvT m' tt σ2 H' (p d) → (p d = true → EvD m' K te σ2 H' (.d (f d))) → Q σ2 H') → g v (wipe σ vs) H' Q) :
    EvD m K (tLc (iList K tl) g tt te vs) σ H (.tl ((ds.filter p).map f)) := fun H1 e Q q => es_lcL (fun i ys => ys = ((ds.take i).filter p).map f) h hz rfl (fun m' H' i d v ys hd I hi a Q2 q2 => hs m' H' d v (List.mem_of_getElem? hd) I hi Q2 fun σ2 hw t1 t2 => q2 σ2 hw
    (TurnOk.det t1 t2 (fun hp => by
      show ys = _
      rw [a, List.take_add_one, hd, List.filter_append]
      show _ = ((ds.take i).filter p ++ [d].filter p).map f
      rw [List.filter_cons, if_neg (by rw [hp]; decide), List.filter_nil, List.append_nil]) (fun hp => by
      show ys ++ [f d] = _
      rw [a, List.take_add_one, hd, List.filter_append]
      show _ = ((ds.take i).filter p ++ [d].filter p).map f
      rw [List.filter_cons, if_pos hp, List.filter_nil, List.map_append] <;> rfl))) H1 e Q fun r v H2 e2 hr i2 => by
    obtain ⟨ys, rfl, a⟩ := hr
    rw [List.take_length] at a
    rw [a] at i2
    exact q v H2 e2 i2
/-- a pair's two names -/
theorem gp_in {i j : Nat} {d1 d2 : PyData} {Q : L2.St → Hp → Prop} {m' : Md} (h : Is m' K H' v (.d (.tuple [d1, d2]))) (q : ∀ x y, Is m' K H' x (.d d1) → Is m' K H' y (.d d2) → Q ((σ.set i (some x)).set j (some y)) H') : gTup K 2 (gCons (gName i) (gCons (gName j) gNil)) v σ H' Q := g_pair h q
end
end K20
end
section
set_option linter.all false
set_option maxRecDepth 100000
set_option maxHeartbeats 2000000
set_option autoImplicit false
namespace K20
open PySem PySem.Spec PyProof.Rows L2 LamX NdefX PySem.W
theorem hu65 {k : Nat} {X : Cx} {A : Around} (hr : Room k A) (h : X.A = A := by rfl) : X.A.units + 65 < cLine := by
  rw [h]
  have := hr.un
  omega
/-! ### webs -/
structure WebOk (ms : List Nat) (ts : List (Nat × Nat)) : Prop where
  n1 : 1 ≤ ms.length
  n5 : ms.length ≤ 5
  mem : ∀ m ∈ ms, m ≤ 3
  tie : ∀ p ∈ ts, p.1 < p.2 ∧ p.2 < ms.length
  few : ts.length ≤ 20
  asc : ts.Pairwise fun p q => p.1 < q.1 ∨ (p.1 = q.1 ∧ p.2 < q.2)
def dNatsL (l : List Nat) : List PyData := l.map fun (n : Nat) => PyData.int (n : Int)
theorem within_ok {i lo hi : Int} (h1 : lo ≤ i) (h2 : i ≤ hi) : within (.int i) lo hi = true := by
  show (decide (lo ≤ i) && decide (i ≤ hi)) = true
  rw [decide_eq_true h1, decide_eq_true h2]
  rfl
section
variable {P : Program} {w : World} {K : PySem.W.Frag} {mg : Str → Option Value} {base : Heap}
/-! ### is_tie -/
abbrev spIsTie (K : PySem.W.Frag) : Sp := SpF K (fun a : (Nat × Nat) × Nat => [.d (dPair a.1), .d (.int (a.2 : Int))]) (fun a => a.1.1 < a.1.2 ∧ a.1.2 < a.2) (fun a => .d (.bool true))
theorem sc_is_tie : FnScope ["thing", "many"] ["thing", "many"] (defScope s_is_tie) := ⟨rfl, rfl, rfl, by decide +kernel, rfl, by decide +kernel, by decide +kernel⟩
theorem ok_is_tie (T : Top K mg) : Cal P w K mg base 3 "is_tie" ["thing", "many"] (spIsTie K) := by
  have G := T.G
  refine T.d_is_tie.cal sc_is_tie (fun _ _ _ _ _ _ us hl => match us, hl with | [_, _], _ => rfl) (fun _ => rfl) (fun f cdv A outer s H0 E hr => ?_)
  refine ⟨_, (pss_cons (ps_if (PW.pt (pw_or (pt_not (pt_val (pe_cal (ok_is_tuple_of T) (hr.mono (by decide)) (by rfl) (pa_cons (pv 0) (pa_cons pe_int pa_nil))))) (pw_or1 (pt_not (pt_val (pe_cal (ok_is_within T) (hr.mono (by decide)) (by rfl) (pa_cons (pe_ix ix_tup (pv 0) pe_int (fun _ _ => rfl)) (pa_cons pe_int (pa_cons (pe_op op_sub (pv 1) pe_int) pa_nil))))))))) (pss_one (ps_ret pe_bl)) pss_nil)
    (pss_one (ps_ret (pe_cal (ok_is_within T) (hr.mono (by decide)) (by rfl) (pa_cons (pe_ix ix_tup (pv 0) pe_int (fun _ _ => rfl)) (pa_cons (pe_op op_add (pe_ix ix_tup (pv 0) pe_int (fun _ _ => rfl)) pe_int) (pa_cons (pe_op op_sub (pv 1) pe_int) pa_nil))))))), ?_⟩
  intro m ⟨p, n⟩ H vs Q k i ⟨p1, p2⟩ q
  obtain ⟨v, v2, rfl, i1, i2⟩ := isAll2 i
  simp only at p1 p2
  have g0 : EvD m K (tOp (rIxT K) (tVar 0) (tC (.int 0))) (start ["thing", "many"] [v, v2]) H (.d (.int (p.1 : Int))) := ev_ixT (ev_var rfl i1) ev_int rfl
  refine q_when (b := false) k ((et_or (et_not (et_B (ev_call (x := (dPair p, 2)) (ea_cons (ev_var rfl i1) (ea_cons ev_int ea_nil)) True.intro))) fun _ => et_not (et_B (ev_call (x := (PyData.int (p.1 : Int), (0 : Int), (n : Int) - 1)) (ea_cons g0 (ea_cons ev_int (ea_cons (ev_ii (ev_var rfl i2) ev_int) ea_nil))) True.intro))).is ?_) (fun z => absurd z Bool.false_ne_true) fun _ H1 e => ?_
  · show (!decide (tupLen (dPair p) = some 2) || !within (.int (p.1 : Int)) 0 ((n : Int) - 1)) = false
    rw [within_ok (by omega) (by omega)]
    rfl
  · refine s_ret e.ok (ev_call (x := (PyData.int (p.2 : Int), (p.1 : Int) + 1, (n : Int) - 1)) (ea_cons (ev_ixT (ev_var rfl (i1.mono e)) ev_int rfl) (ea_cons (ev_ii (g0.mono e) ev_int) (ea_cons (ev_ii (ev_var rfl (i2.mono e)) ev_int) ea_nil))) True.intro) fun v H2 e2 i3 => q _ v H2 (R.trans e e2) rfl (i3.e (congrArg PyData.bool ?_))
    exact within_ok (by show (p.1 : Int) + 1 ≤ p.2; omega) (by show (p.2 : Int) ≤ (n : Int) - 1; omega)
/-! ### is_room -/
abbrev spIsRoom (K : PySem.W.Frag) : Sp := SpF K (fun a : (List Nat × List (Nat × Nat)) × PyData => [.web a.1.1 a.1.2, .d a.2]) (fun a => True) (fun a => .d (.bool (within a.2 0 ((a.1.1.length : Int) - 1))))
theorem sc_is_room : FnScope ["web", "thing"] ["web", "thing"] (defScope s_is_room) := ⟨rfl, rfl, rfl, by decide +kernel, rfl, by decide +kernel, by decide +kernel⟩
theorem ok_is_room (T : Top K mg) : Cal P w K mg base 3 "is_room" ["web", "thing"] (spIsRoom K) := by
  have G := T.G
  refine T.d_is_room.cal sc_is_room (fun _ _ _ _ _ _ us hl => match us, hl with | [_, _], _ => rfl) (fun _ => rfl) (fun f cdv A outer s H0 E hr => ?_)
  refine ⟨_, (pss_one (ps_ret (pe_cal (ok_is_within T) (hr.mono (by decide)) (by rfl) (pa_cons (pv 1) (pa_cons pe_int (pa_cons (pe_op op_sub (pe_callB call_len_seq (by rfl) G.len_ (by decide +kernel) (pa_cons (pe_fld (pv 0) rfl) pa_nil)) pe_int) pa_nil)))))), ?_⟩
  intro m ⟨⟨ms, ts⟩, d⟩ H vs Q k i _ q
  obtain ⟨v, v2, rfl, i1, i2⟩ := isAll2 i
  refine s_ret k (ev_call (x := (d, (0 : Int), (ms.length : Int) - 1)) (ea_cons (ev_var rfl i2) (ea_cons ev_int (ea_cons (ev_ii ((ev_lenT (ev_mems (ev_var rfl i1) G.cW G.nM)).is (by rw [List.length_map])) ev_int) ea_nil))) True.intro) fun v H1 e i1 => q _ v H1 e rfl i1
/-! ### tied_rooms -/
def TiedOk (ts : List (Nat × Nat)) (room : Nat) (l : List Nat) : Prop := (∀ x, x ∈ l ↔ ((room, x) ∈ ts ∨ (x, room) ∈ ts)) ∧ l.length ≤ ts.length
def tieHas (room : Nat) : PyData → Bool
  | .tuple [.int a, .int b] => decide ((room : Int) ∈ [a, b])
  | _ => false
def tieOther (room : Nat) : PyData → PyData
  | .tuple [.int a, .int b] => .int (a + b - (room : Int))
  | d => d
def otherN (ts : List (Nat × Nat)) (room : Nat) : List Nat := (ts.filter fun p => decide (room = p.1 ∨ room = p.2)).map fun p => p.1 + p.2 - room
theorem tie_map (ts : List (Nat × Nat)) (room : Nat) : (((ts.map dPair).filter (tieHas room)).map (tieOther room)) = (otherN ts room).map fun (n : Nat) => PyData.int (n : Int) := by
  unfold otherN
  rw [List.filter_map, List.map_map, List.map_map]
  have e1 : (tieHas room ∘ dPair) = fun p : Nat × Nat => decide (room = p.1 ∨ room = p.2) := by
    funext p
    show decide ((room : Int) ∈ [(p.1 : Int), (p.2 : Int)]) = _
    refine decide_eq_decide.mpr ?_
    simp only [List.mem_cons, List.not_mem_nil, or_false]
    omega
  rw [e1]
  refine List.map_congr_left fun p hp => ?_
  have hp2 := of_decide_eq_true (List.mem_filter.mp hp).2
  show PyData.int ((p.1 : Int) + (p.2 : Int) - (room : Int)) = .int ((p.1 + p.2 - room : Nat) : Int)
  congr 1
  omega
theorem otherN_ok {ms : List Nat} {ts : List (Nat × Nat)} (hw : WebOk ms ts) (room : Nat) : ∀ x, x ∈ otherN ts room ↔ ((room, x) ∈ ts ∨ (x, room) ∈ ts) := fun x => by
  unfold otherN
  constructor
  · intro h
    obtain ⟨p, hp, rfl⟩ := List.mem_map.mp h
    obtain ⟨h1, h2⟩ := List.mem_filter.mp hp
    have h2 := of_decide_eq_true h2
    obtain ⟨a, b⟩ := p
    simp only at h2
    rcases h2 with rfl | rfl
    · left
      have : room + b - room = b := by omega
      show (room, room + b - room) ∈ ts
      rw [this]
      exact h1
    · right
      have : a + room - room = a := by omega
      show (a + room - room, room) ∈ ts
      rw [this]
      exact h1
  · intro h
    rcases h with h | h
    · refine List.mem_map.mpr ⟨(room, x), List.mem_filter.mpr ⟨h, decide_eq_true (.inl rfl)⟩, ?_⟩
      show room + x - room = x
      omega
    · refine List.mem_map.mpr ⟨(x, room), List.mem_filter.mpr ⟨h, decide_eq_true (.inr rfl)⟩, ?_⟩
      show x + room - room = x
      omega
abbrev spTied (K : PySem.W.Frag) : Sp := SpP K (fun a : (List Nat × List (Nat × Nat)) × Nat => [.web a.1.1 a.1.2, .d (.int (a.2 : Int))]) (fun a => WebOk a.1.1 a.1.2) (fun a r => ∃ l, r = .d (dNats l) ∧ TiedOk a.1.2 a.2 l)
theorem sc_tied_rooms : FnScope ["web", "room", "found", "one", "other"] ["web", "room"] (defScope s_tied_rooms) := ⟨rfl, rfl, rfl, by decide +kernel, rfl, by decide +kernel, by decide +kernel⟩
theorem ok_tied_rooms (T : Top K mg) : Cal P w K mg base 1 "tied_rooms" ["web", "room"] (spTied K) := by
  have G := T.G
  refine T.d_tied_rooms.cal sc_tied_rooms (fun _ _ _ _ _ _ us hl => match us, hl with | [_, _], _ => rfl) (fun _ => rfl) (fun f cdv A outer s H0 E hr => ?_)
  refine ⟨_, (pss_cons (ps_setLc (i := 2) (own := [("one", 3), ("other", 4)]) (g := (gTup K 2 (gCons (gName 3) (gCons (gName 4) gNil)))) (tt := (tTest (tOp (rIn K false) (tVar 1) (tTup (tCons (tVar 3) (tCons (tVar 4) tNil)))))) (te := (tOp (rI0 fun i j => .int (i - j)) (tOp (rI0 fun i j => .int (i + j)) (tVar 3) (tVar 4)) (tVar 1))) rfl sc_tied_rooms.nd rfl rfl (sw_true rfl rfl rfl (by decide +kernel)) (pi_tup (pe_fld (pv 0) rfl)) (blkOk_by (own := [("one", 3), ("other", 4)]) (by kernel_rfl)) (fun _ _ _ _ _ => (pg_tup rfl (pgs_cons (pg_name (i := 3) sc_tied_rooms.nd rfl (Or.inl rfl)) (pgs_cons (pg_name (i := 4) sc_tied_rooms.nd rfl (Or.inl rfl)) pgs_nil)))) (fun _ _ _ _ _ => (pts_one (pt_cmpR op_in_seq (pv 1) (pe_tup (pa_cons (pv 3) (pa_cons (pv 4) pa_nil))) (by rfl)))) (fun _ _ _ _ _ => (pe_op op_sub (pe_op op_add (pv 3) (pv 4)) (pv 1))))
    (pss_one (ps_ret (pe_callTy call_tuple_of (by rfl) G.tuple_ (by decide +kernel) (pa_cons (pe_callB cr_sorted (by rfl) G.sorted_ (by decide +kernel) (pa_cons (pv 2) pa_nil)) pa_nil))))), ?_⟩
  intro m ⟨⟨ms, ts⟩, room⟩ H vs Q k i hw q
  obtain ⟨v, v2, rfl, i1, i2⟩ := isAll2 i
  simp only at hw
  have hlen : (otherN ts room).length ≤ ts.length := by
    unfold otherN
    rw [List.length_map]
    exact List.length_filter_le _ _
  have hL : EvD m K (tLc (iTup K (tFld K (tVar 0) "ties")) (gTup K 2 (gCons (gName 3) (gCons (gName 4) gNil))) (tTest (tOp (rIn K false) (tVar 1) (tTup (tCons (tVar 3) (tCons (tVar 4) tNil))))) (tOp (rI0 fun i j => .int (i - j)) (tOp (rI0 fun i j => .int (i + j)) (tVar 3) (tVar 4)) (tVar 1)) [3, 4]) (start ["web", "room", "found", "one", "other"] [v, v2]) H (.tl ((otherN ts room).map fun (n : Nat) => PyData.int (n : Int))) := by
    refine EvD.is (r := .tl (((ts.map dPair).filter (tieHas room)).map (tieOther room))) ?_ (by rw [tie_map])
    refine ev_lcTG (tieHas room) (tieOther room) (ev_ties (ev_var rfl i1) G.cW G.nT) (by rw [List.length_map]; have := hw.few; omega) fun m' H' d u hd I hi Q2 q2 => ?_
    obtain ⟨p, hp, rfl⟩ := List.mem_map.mp hd
    refine gp_in hi fun x y ix iy => q2 _ rfl ?_ fun _ => ?_
    · exact et_test (ev_inT (ns := [(p.1 : Int), (p.2 : Int)]) (ev_var rfl (I.is _ _ i2)) (ev_tup (ds := [.int p.1, .int p.2]) (ea_cons (ev_var rfl ix) (ea_cons (ev_var rfl iy) ea_nil))))
    · exact ev_ii (ev_ii (ev_var rfl ix) (ev_var rfl iy)) (ev_var rfl (I.is _ _ i2))
  refine q_asg k hL fun v3 H1 e1 i3 => ?_
  have h4 : EvD m K (tVar 2) ((start ["web", "room", "found", "one", "other"] [v, v2]).set 2 (some v3)) H1 (.tl (((otherN ts room).map fun (n : Nat) => (n : Int)).map PyData.int)) := ev_var rfl (by
    have e : ((otherN ts room).map fun (n : Nat) => (n : Int)).map PyData.int = (otherN ts room).map fun (n : Nat) => PyData.int (n : Int) := List.map_map
    rw [e]
    exact i3)
  refine s_bind (fun te => tRet (tCB (rTupOf K) (tCons te tNil))) (fun _ _ _ _ => rfl) e1.ok (es_sorted (ev_tlr h4) (by rw [List.length_map]; have := hw.few; omega)) fun r v4 H2 e2 hr i4 => ?_
  obtain ⟨ns, rfl, hp, _⟩ := hr
  refine s_ret e2.ok (ev_tupL (ev_tlr (ev_cv i4))) fun v5 H3 e3 i5 => ?_
  have hns : ∃ l : List Nat, ns = l.map fun (n : Nat) => (n : Int) := by
    refine ⟨ns.map Int.toNat, ?_⟩
    rw [List.map_map]
    refine (List.map_id ns).symm.trans (List.map_congr_left fun x hx => ?_)
    obtain ⟨n, _, rfl⟩ := List.mem_map.mp (hp.mem_iff.mp hx)
    rfl
  obtain ⟨l, rfl⟩ := hns
  refine q _ v5 H3 (R.trans (R.trans e1 e2) e3) ⟨l, rfl, fun x => ?_, ?_⟩ (i5.e (by rw [dNats_ints]; rfl))
  · rw [← otherN_ok hw room x]
    have h1 := hp.mem_iff (a := (x : Int))
    constructor
    · intro h
      obtain ⟨n, hn, e⟩ := List.mem_map.mp (h1.mp (List.mem_map.mpr ⟨x, h, rfl⟩))
      have : n = x := by omega
      exact this ▸ hn
    · intro h
      obtain ⟨n, hn, e⟩ := List.mem_map.mp (h1.mpr (List.mem_map.mpr ⟨x, h, rfl⟩))
      have : n = x := by omega
      exact this ▸ hn
  · have := hp.length_eq
    rw [List.length_map, List.length_map] at this
    rw [this]
    exact hlen
/-! ### Web -/
def spWebInit (K : PySem.W.Frag) : Sp := fun vs H Q _ => ∃ (m : Md) (x dx : Addr) (H0 : Hp) (v1 v2 : V) (ms : List Nat) (ts : List (Nat × Nat)), vs = [.ref x, v1, v2] ∧ H = upd (upd H0 dx (.own x)) x (.ins (He.ga K "Web") dx []) ∧ H0 x = none ∧ H0 dx = none ∧ dx ≠ x ∧ m.ok H0 ∧
  Is m K H0 v1 (.d (dNats ms)) ∧ Is m K H0 v2 (.d (dPairs ts)) ∧ WebOk ms ts ∧ ∀ H', m.R H0 H' → Is m K H' (.ref x) (.web ms ts) → Q .non H'
theorem sc_Web_init : FnScope ["self", "memories", "ties", "number", "tie", "memory"] ["self", "memories", "ties"] (defScope s_Web_init) := ⟨rfl, rfl, rfl, by decide +kernel, rfl, by decide +kernel, by decide +kernel⟩
theorem ok_Web_init (T : Top K mg) : MCal P w K mg base 4 "Web" "__init__" ["self", "memories", "ties"] (spWebInit K) := by
  have G := T.G
  obtain ⟨_, gRooms⟩ := G.mRooms
  obtain ⟨_, gMem⟩ := G.mMem
  refine T.w_init.cal sc_Web_init (fun _ _ _ _ _ _ us hl => match us, hl with | [_, _, _], _ => rfl) (fun vs H Q E h => by obtain ⟨_, _, _, _, _, _, _, _, rfl, _⟩ := h; rfl) (fun f cdv A outer s H0 E hr => ?_)
  refine ⟨_, (pss_cons (ps_if (PW.pt (pw_or (pt_not (pt_val (pe_callB call_isi (by rfl) G.isinstance_ (by decide +kernel) (pa_cons (pv 1) (pa_cons (pe_bltn (v := .ty "tuple") (by rfl) G.tuple_ (by decide +kernel) rfl) pa_nil))))) (pw_or1 (pt_not (pt_chain op_le op_le pe_int (pe_callB call_len_seq (by rfl) G.len_ (by decide +kernel) (pa_cons (pv 1) pa_nil)) (pe_glob (v := .int 60) (by rfl) gRooms ⟨_, rfl⟩)))))) (pss_one ps_never) pss_nil)
    (pss_cons (ps_if (pt_not (pt_val (pe_callB (cr_all rfl) (by rfl) G.all_ (by decide +kernel) (pa_cons (pe_lc (own := [("memory", 5)]) (g := (gName 5)) (tt := tYes) (te := (tCall (spIsWithin K) [] E0 (tCons (tVar 5) (tCons (tC (.int 0)) (tCons (tC (.int 30)) tNil))))) rfl sc_Web_init.nd (pi_tup (pv 1)) (blkOk_by (own := [("memory", 5)]) (by kernel_rfl)) (fun _ _ _ _ _ => (pg_name (i := 5) sc_Web_init.nd rfl (Or.inl rfl))) (fun _ _ _ _ _ => pts_nil) (fun _ _ _ _ _ => (pe_cal (ok_is_within T) (hr.mono (by decide)) (by rfl) (pa_cons (pv 5) (pa_cons pe_int (pa_cons (pe_glob (v := .int 30) (by rfl) gMem ⟨_, rfl⟩) pa_nil)))))) pa_nil)))) (pss_one ps_never) pss_nil)
    (pss_cons (ps_if (pt_not (pt_val (pe_callB call_isi (by rfl) G.isinstance_ (by decide +kernel) (pa_cons (pv 2) (pa_cons (pe_bltn (v := .ty "tuple") (by rfl) G.tuple_ (by decide +kernel) rfl) pa_nil))))) (pss_one ps_never) pss_nil)
    (pss_cons (ps_for PassesOwn.never rfl (pi_enumT (by rfl) G.enumerate_ (pa_cons (pv 2) pa_nil)) (pg_tup rfl (pgs_cons (pg_name (i := 3) sc_Web_init.nd rfl (Or.inl rfl)) (pgs_cons (pg_name (i := 4) sc_Web_init.nd rfl (Or.inl rfl)) pgs_nil)))
    (pss_one (ps_if (PW.pt (pw_or (pt_not (pt_val (pe_cal (ok_is_tie T) (hr.mono (by decide)) (by rfl) (pa_cons (pv 4) (pa_cons (pe_callB call_len_seq (by rfl) G.len_ (by decide +kernel) (pa_cons (pv 1) pa_nil)) pa_nil))))) (pw_or1 (PW.pt (pw_and (pt_cmpR op_gt (pv 3) pe_int (nomark _)) (pw_and1 (pt_cmpR (op_leT hr.units0) (pv 4) (pe_ix ix_tup (pv 2) (pe_op op_sub (pv 3) pe_int) (fun _ _ => rfl)) (nomark _)))))))) (pss_one ps_never) pss_nil)))
    (pss_cons (ps_fld (pv 0) (pv 1) rfl)
    (pss_one (ps_fld (pv 0) (pv 2) rfl))))))), ?_⟩
  rintro H vs Q ⟨m, x, dx, H1, v1, v2, ms, ts, rfl, rfl, hx, hdx, hne, k, j1, j2, hw, q⟩
  have k1 : (m.hide dx).ok (upd H1 dx (.own x)) := hide_ok k hdx
  have hx1 : upd H1 dx (.own x) x = none := by rw [upd_ne (Ne.symm hne)]; exact hx
  have k2 : ((m.hide dx).hide x).ok (upd (upd H1 dx (.own x)) x (.ins (He.ga K "Web") dx [])) := hide_ok k1 hx1
  have i1 : Is ((m.hide dx).hide x) K (upd (upd H1 dx (.own x)) x (.ins (He.ga K "Web") dx [])) v1 (.d (dNats ms)) := (j1.hide k hdx).hide k1 hx1
  have i2 : Is ((m.hide dx).hide x) K (upd (upd H1 dx (.own x)) x (.ins (He.ga K "Web") dx [])) v2 (.d (dPairs ts)) := (j2.hide k hdx).hide k1 hx1
  have hkeep : ∀ H', ((m.hide dx).hide x).R (upd (upd H1 dx (.own x)) x (.ins (He.ga K "Web") dx [])) H' → H' x = some (.ins (He.ga K "Web") dx []) := fun H' e => by
    rw [R.lo e (List.mem_cons_self ..)]
    exact upd_same
  generalize hm2 : (m.hide dx).hide x = m2 at *
  generalize hH2 : upd (upd H1 dx (.own x)) x (.ins (He.ga K "Web") dx []) = H2 at *
  refine q_when (b := false) k2 ((et_or (et_not (et_B (ev_isi (ev_var rfl i1) (kit_tuple _)))) fun _ => et_not (et_chain ev_int (ev_lenT (ev_var rfl i1)) ev_int)).is ?_) (fun z => absurd z Bool.false_ne_true) fun _ H3 e3 => ?_
  · have h1 := hw.n1
    have h5 := hw.n5
    rw [List.length_map, decide_eq_true (show (1 : Int) ≤ (ms.length : Int) by omega), decide_eq_true (show (ms.length : Int) ≤ 60 by omega)]
    rfl
  refine q_when (b := false) e3.ok ((et_not (et_B (ev_allL (bs := ms.map fun _ => true) (ev_tlr ((ev_lcT (fun _ => true) (fun _ => .bool true) (ev_var rfl (i1.mono e3)) (by rw [List.length_map]; have := hw.n5; omega) (fun _ => rfl) (fun _ _ _ _ _ _ _ => et_yes rfl) (fun m' H' d u hd I hi _ => ?_)).is ?_))))).is ?_) (fun z => absurd z Bool.false_ne_true) fun _ H4 e4 => ?_
  · obtain ⟨n, hn, rfl⟩ := List.mem_map.mp hd
    refine (ev_call (x := (PyData.int (n : Int), (0 : Int), (30 : Int))) (ea_cons (ev_var rfl hi) (ea_cons ev_int (ea_cons ev_int ea_nil))) True.intro).b ?_
    have := hw.mem n hn
    exact within_ok (by show (0 : Int) ≤ (n : Int); omega) (by show (n : Int) ≤ 30; omega)
  · rw [filter_true, List.map_map, List.map_map]
    rfl
  · rw [List.all_map]
    have : ms.all (id ∘ fun _ => true) = true := List.all_eq_true.mpr fun _ _ => rfl
    rw [this]
    rfl
  have e34 := R.trans e3 e4
  refine q_when (b := false) e4.ok ((et_not (et_B (ev_isi (ev_var rfl (i2.mono e34)) (kit_tuple _)))).is rfl) (fun z => absurd z Bool.false_ne_true) fun _ H5 e5 => ?_
  have e35 := R.trans e34 e5
  refine q_forE (ps := []) e5.ok (ev_var rfl (i2.mono e35)) (fun n σ' H' => ∃ a b c, σ' = [some (.ref x), some v1, some v2, a, b, c]) (fun H6 e6 => ⟨none, none, none, rfl⟩) (fun H6 n d v σ' H0' H' hd e6 w6 r6 pv hi => ?_) fun σ' H' w pv => ?_
  · obtain ⟨a, b, c, rfl⟩ := pv
    have e7 : m2.R H2 H' := R.trans (R.trans (R.trans e35 e6) w6) r6
    rw [List.getElem?_map] at hd
    obtain ⟨p, hp, rfl⟩ := Option.map_eq_some_iff.mp hd
    have hmem := List.mem_of_getElem? hp
    obtain ⟨t1, t2⟩ := hw.tie p hmem
    refine s_when (b := false) r6.ok ((et_or (et_not (et_B (ev_call (x := (p, ms.length)) (ea_cons (ev_var rfl hi) (ea_cons ((ev_lenT (ev_var rfl (i1.mono e7))).is (by rw [List.length_map])) ea_nil)) ⟨t1, t2⟩))) fun _ => et_and (et_test (K := K) (ev_ib (ev_var rfl (.int _)) ev_int)) fun hpos => et_test ((ev_leT (ns := [(p.1 : Int), (p.2 : Int)]) (ms := [((ts.getD (n - 1) (0, 0)).1 : Int), ((ts.getD (n - 1) (0, 0)).2 : Int)]) (ev_var rfl hi) (ev_ixT (i := (n : Int) - 1) (ev_var rfl (i2.mono e7)) (ev_ii (ev_var rfl (.int _)) ev_int) ?_)).b (lex_pair ?_))).is ?_) (fun z => absurd z Bool.false_ne_true) fun _ H8 e8 => ⟨W.trans (W.trans w6 (R.w r6)) (R.w e8), _, _, _, rfl⟩
    · have hn0 : 0 < n := by
        have := of_decide_eq_true hpos
        omega
      have hlt := (List.getElem?_eq_some_iff.mp hp).1
      unfold atI ixN
      rw [if_pos (by omega), if_pos (by rw [List.length_map]; omega)]
      show (ts.map dPair)[((n : Int) - 1).toNat]? = _
      have e1 : ((n : Int) - 1).toNat = n - 1 := by omega
      rw [e1, List.getElem?_map, List.getElem?_eq_getElem (show n - 1 < ts.length by omega), List.getD_eq_getElem?_getD, List.getElem?_eq_getElem (show n - 1 < ts.length by omega)]
      rfl
    · have hn0 : 0 < n := by
        have := of_decide_eq_true hpos
        omega
      have hlt := (List.getElem?_eq_some_iff.mp hp).1
      have ha := List.pairwise_iff_getElem.mp hw.asc (n - 1) n (by omega) hlt (by omega)
      have e1 : ts.getD (n - 1) (0, 0) = ts[n - 1]'(by omega) := by rw [List.getD_eq_getElem?_getD, List.getElem?_eq_getElem (show n - 1 < ts.length by omega)]; rfl
      have e2 : ts[n] = p := (List.getElem?_eq_some_iff.mp hp).2
      rw [e1]
      rw [e2] at ha
      rcases ha with ha | ⟨ha, hb⟩
      · left; omega
      · right; omega
    · rw [Bool.and_false]
      rfl
  · obtain ⟨a, b, c, rfl⟩ := pv
    have e6 : m2.R H2 H' := R.trans e35 w
    have hH' := hkeep H' e6
    refine ⟨v1, rfl, .ref x, rfl, x, _, dx, [], rfl, hH', G.cW, G.nM, by decide, v2, rfl, .ref x, rfl, x, _, dx, _, rfl, upd_same, G.cW, G.nT, (by show 1 < 1000; decide), ?_⟩
    rw [upd_upd]
    have w7 : m2.W [x] H2 (upd H' x (.ins (He.ga K "Web") dx (putF "ties" v2 (putF "memories" v1 [])))) := W.trans (R.w e6) (W.put e6.ok (by rw [← hm2]; exact List.mem_cons_self ..) (List.mem_cons_self ..))
    subst hm2 hH2
    have w8 := unhide k1 hx1 w7
    have w9 : m.R H1 _ := unhide k hdx (R.w w8)
    exact q _ w9 ⟨x, dx, _, v1, v2, rfl, see k hx upd_same rfl, rfl, rfl, j1.mono w9, j2.mono w9⟩
theorem ev_web {mg' : Str → Option Value} {m : Md} {H : Hp} {σ : L2.St} {ta tb : TE} {ms : List Nat} {ts : List (Nat × Nat)} (hw : WebOk ms ts) (h1 : EvD m K ta σ H (.d (dNats ms))) (h2 : EvD m K tb σ H (.d (dPairs ts))) :
    EvD m K (tMake (He.ga K "Web") (spWebInit K) [] E0 (tCons ta (tCons tb tNil))) σ H (.web ms ts) := fun H1 e Q q => h1 H1 e _ fun v1 H2 e2 i1 => h2 H2 (R.trans e e2) _ fun v2 H3 e3 i2 => fun x dx hx hdx hne =>
  ⟨m, x, dx, H3, v1, v2, ms, ts, rfl, rfl, hx, hdx, hne, e3.ok, i1.mono e3, i2, hw, fun H' e4 i => ⟨rfl, q _ H' (R.trans (R.trans e2 e3) e4) i⟩⟩
end
end K20
end
section
set_option linter.all false
set_option maxRecDepth 100000
set_option maxHeartbeats 2000000
set_option autoImplicit false
namespace K20
open PySem PySem.Spec PyProof.Rows L2 LamX NdefX PySem.W
theorem atI_nat {α : Type} {xs : List α} {i : Nat} {x : α} (h : xs[i]? = some x) : atI xs (i : Int) = some x := by
  have hl := (List.getElem?_eq_some_iff.mp h).1
  unfold atI ixN
  rw [if_pos (by omega), if_pos (by omega)]
  exact h
theorem mem_at {ms : List Nat} {r : Nat} (h : r < ms.length) : (ms.map fun (n : Nat) => PyData.int (n : Int))[r]? = some (.int ((ms.getD r 0 : Nat) : Int)) := by
  rw [List.getElem?_map, List.getElem?_eq_getElem h, List.getD_eq_getElem?_getD, List.getElem?_eq_getElem h]
  rfl
theorem mem_le {ms : List Nat} (h : ∀ m ∈ ms, m ≤ 3) (r : Nat) : ms.getD r 0 ≤ 3 := by
  rw [List.getD_eq_getElem?_getD]
  cases e : ms[r]? with
  | none => exact Nat.zero_le _
  | some m => exact h m (List.mem_of_getElem? e)
section
variable {m : Md} {K : PySem.W.Frag} {σ : L2.St} {H : Hp} {ta tb te : TE}
theorem ev_isiLT {a : PyData} (h : EvD m K te σ H (.d a)) (hk : (tupLen a).isSome = true) : EvD m K (tCB (rIsiT K) (tCons te (tCons (tTup (tCons (tC (.ty "list")) (tCons (tC (.ty "tuple")) tNil))) tNil))) σ H (.d (.bool true)) := fun H1 e Q q => h H1 e _ fun v H2 e2 i2 => by
  obtain ⟨ds, rfl⟩ := tup_of hk
  refine ⟨by decide, fun p hp => ?_⟩
  have r2 : m.R H2 (upd H2 p (.tup [.ty "list", .ty "tuple"])) := R.new e2.ok hp
  refine ⟨v, p, _, _, [.type "list", .type "tuple"], true, rfl, upd_same, .cons (.ty _) (.cons (.ty _) .nil), tyD_of (Dp.mono (r2.ex.trans vw_same) _ _ i2), ?_, q _ _ (R.trans e2 r2) (.bl _)⟩
  show (match PySem.W.kitOne K (.type "tuple") (.type "list") with | some true => some true | some false => PySem.W.kitAny K (.type "tuple") [.type "tuple"] | none => none) = some true
  rw [kit_ty (a := "tuple") (b := "list") (r := false) (by decide +kernel)]
  show (match PySem.W.kitOne K (.type "tuple") (.type "tuple") with | some true => some true | some false => some false | none => none) = some true
  rw [kit_ty (a := "tuple") (b := "tuple") (r := true) (by decide +kernel)]
end
theorem kit_str (d : PyData) : kitB (tyD d) "str" = some (match d with | .str _ => true | _ => false) := by
  cases d <;> (first | rfl | decide +kernel)
section
variable {P : Program} {w : World} {K : PySem.W.Frag} {mg : Str → Option Value} {base : Heap}
abbrev Wb := List Nat × List (Nat × Nat)
/-! ### begun, kept_tags -/
abbrev spBegun (K : PySem.W.Frag) : Sp := SpF K (fun a : Wb => [.web a.1 a.2]) (fun a => a.1.length ≤ 5) (fun a => .d (dStand (begunM a.1)))
theorem sc_begun : FnScope ["web"] ["web"] (defScope s_begun) := ⟨rfl, rfl, rfl, by decide +kernel, rfl, by decide +kernel, by decide +kernel⟩
theorem ok_begun (T : Top K mg) : Cal P w K mg base 1 "begun" ["web"] (spBegun K) := by
  have G := T.G
  refine T.d_begun.cal sc_begun (fun _ _ _ _ _ _ us hl => match us, hl with | [_], _ => rfl) (fun _ => rfl) (fun f cdv A outer s H0 E hr => ?_)
  refine ⟨_, (pss_one (ps_ret (pe_op op_repU (pe_tup (pa_cons (pe_tup (pa_cons pe_bl (pa_cons (pe_tup pa_nil) pa_nil))) pa_nil)) (pe_callB call_len_seq (by rfl) G.len_ (by decide +kernel) (pa_cons (pe_fld (pv 0) rfl) pa_nil))))), ?_⟩
  intro m ⟨ms, ts⟩ H vs Q k i hw q
  obtain ⟨v, rfl, i1⟩ := isAll1 i
  refine s_ret k (ev_repU (ds := [dSt1 (false, [])]) (n := ms.length) (ev_tup (ds := [dSt1 (false, [])]) (ea_cons (ev_tup (ds := [.bool false, .tuple []]) (ea_cons ev_bl (ea_cons (ev_tup (ds := []) ea_nil) ea_nil))) ea_nil)) ((ev_lenT (ev_mems (ev_var rfl i1) G.cW G.nM)).is (by rw [List.length_map])) (by simp) (by show ms.length ≤ 1000; have : ms.length ≤ 5 := hw; omega) (by simp)) fun v H1 e i1 => q _ v H1 e rfl (i1.e ?_)
  show PyData.tuple _ = PyData.tuple _
  congr 1
  rw [flatten_singles]
  unfold begunM
  rw [List.map_replicate]
abbrev spKept (K : PySem.W.Frag) : Sp := SpF K (fun a : Wb × Nat => [.web a.1.1 a.1.2, .d (.int (a.2 : Int))]) (fun a => a.2 < a.1.1.length) (fun a => .d (.int ((max 1 (a.1.1.getD a.2 0) : Nat) : Int)))
theorem sc_kept_tags : FnScope ["web", "room"] ["web", "room"] (defScope s_kept_tags) := ⟨rfl, rfl, rfl, by decide +kernel, rfl, by decide +kernel, by decide +kernel⟩
theorem ok_kept_tags (T : Top K mg) : Cal P w K mg base 1 "kept_tags" ["web", "room"] (spKept K) := by
  have G := T.G
  refine T.d_kept_tags.cal sc_kept_tags (fun _ _ _ _ _ _ us hl => match us, hl with | [_, _], _ => rfl) (fun _ => rfl) (fun f cdv A outer s H0 E hr => ?_)
  refine ⟨_, (pss_one (ps_ret (pe_callB (call_max2 rfl) (by rfl) G.max_ (by decide +kernel) (pa_cons pe_int (pa_cons (pe_ix ix_tup (pe_fld (pv 0) rfl) (pv 1) (fun _ _ => rfl)) pa_nil))))), ?_⟩
  intro m ⟨⟨ms, ts⟩, r⟩ H vs Q k i hw q
  obtain ⟨v, v2, rfl, i1, i2⟩ := isAll2 i
  have hw : r < ms.length := hw
  refine s_ret k (ev_i2 ev_int (ev_ixT (ev_mems (ev_var rfl i1) G.cW G.nM) (ev_var rfl i2) (atI_nat (mem_at hw)))) fun v H1 e i1 => q _ v H1 e rfl (i1.e (congrArg PyData.int ?_))
  show (if ((ms.getD r 0 : Nat) : Int) > 1 then ((ms.getD r 0 : Nat) : Int) else 1) = ((max 1 (ms.getD r 0) : Nat) : Int)
  split <;> omega
/-! ### raw_after -/
abbrev spAfter (K : PySem.W.Frag) : Sp := SpF K (fun a : Wb × Stand × Deed => [.web a.1.1 a.1.2, .d (dStand a.2.1), .d (dDeed a.2.2)]) (fun a => WebOk a.1.1 a.1.2 ∧ StOk a.1.1 a.2.1 ∧ roomD a.2.2 < a.1.1.length) (fun a => .d (dStand (afterM a.1.1 a.2.1 a.2.2)))
theorem sc_raw_after : FnScope ["web", "standing", "deed", "room", "tags", "here"] ["web", "standing", "deed"] (defScope s_raw_after) := ⟨rfl, rfl, rfl, by decide +kernel, rfl, by decide +kernel, by decide +kernel⟩
theorem st_at {st : Stand} {r : Nat} (h : r < st.length) : (st.map dSt1)[r]? = some (dSt1 (at_ st r)) := by
  rw [List.getElem?_map, at_get h]
  rfl
theorem ok_raw_after (T : Top K mg) : Cal P w K mg base 2 "raw_after" ["web", "standing", "deed"] (spAfter K) := by
  have G := T.G
  refine T.d_raw_after.cal sc_raw_after (fun _ _ _ _ _ _ us hl => match us, hl with | [_, _, _], _ => rfl) (fun _ => rfl) (fun f cdv A outer s H0 E hr => ?_)
  refine ⟨_, (pss_cons (ps_set (i := 3) sc_raw_after.nd rfl (Or.inl rfl) (pe_ix ix_tup (pv 2) pe_int (fun _ _ => rfl)))
    (pss_cons (ps_set (i := 4) sc_raw_after.nd rfl (Or.inl rfl) (pe_ix ix_tup (pe_ix ix_tup (pv 1) (pv 3) (fun _ _ => rfl)) pe_int (fun _ _ => rfl)))
    (pss_cons (ps_set (i := 5) sc_raw_after.nd rfl (Or.inl rfl) (pe_tup (pa_cons pe_bl (pa_cons (pv 4) pa_nil))))
    (pss_cons (ps_if (pt_cmpR op_eq (pe_ix ix_tup (pv 2) pe_int (fun _ _ => rfl)) pe_str (nomark _)) (pss_one (ps_set (i := 5) sc_raw_after.nd rfl (Or.inl rfl) (pe_tup (pa_cons pe_bl (pa_cons (pe_slice sl_tupA (pe_op op_catA (pe_tup (pa_cons (pe_ix ix_tup (pv 2) pe_int (fun _ _ => rfl)) pa_nil)) (pv 4)) po_none (po_some (pe_cal (ok_kept_tags T) (hr.mono (by decide)) (by rfl) (pa_cons (pv 0) (pa_cons (pv 3) pa_nil))))) pa_nil))))) pss_nil)
    (pss_one (ps_ret (pe_op op_catA (pe_op op_catA (pe_slice sl_tupA (pv 1) po_none (po_some (pv 3))) (pe_tup (pa_cons (pv 5) pa_nil))) (pe_slice sl_tupA (pv 1) (po_some (pe_op op_add (pv 3) pe_int)) po_none)))))))), ?_⟩
  intro m ⟨⟨ms, ts⟩, st, d⟩ H vs Q k i ⟨hw, hs, hr⟩ q
  obtain ⟨v, v2, v3, rfl, i1, i2, i3⟩ := isAll3 i
  simp only at hw hs hr
  have hr' : roomD d < st.length := by rw [hs.len]; exact hr
  have hd1 : EvD m K (tOp (rIxT K) (tVar 2) (tC (.int 1))) (start ["web", "standing", "deed", "room", "tags", "here"] [v, v2, v3]) H (.d (.int (roomD d : Int))) := by
    cases d with
    | give r t => exact ev_ixT (ds := [.str (word true), .int (r : Int), .int t]) (ev_var rfl i3) ev_int rfl
    | back r => exact ev_ixT (ds := [.str (word false), .int (r : Int)]) (ev_var rfl i3) ev_int rfl
  refine q_asg k hd1 fun v4 H1 e1 i4 => ?_
  refine q_asg e1.ok (ev_ixT (ds := [.bool (at_ st (roomD d)).1, dInts (at_ st (roomD d)).2]) (a := dInts (at_ st (roomD d)).2) (ev_ixT (ds := st.map dSt1) (ev_var rfl (i2.mono e1)) (ev_var rfl i4) (atI_nat (st_at hr'))) ev_int rfl) fun v5 H2 e2 i5 => ?_
  refine q_asg e2.ok (ev_tup (ds := [.bool false, dInts (at_ st (roomD d)).2]) (ea_cons ev_bl (ea_cons (ev_var rfl i5) ea_nil))) fun v6 H3 e3 i6 => ?_
  have e12 := R.trans e1 e2
  have e13 := R.trans e12 e3
  have fin : ∀ H4 v7, m.R H3 H4 → Is m K H4 v7 (.d (dSt1 (hereM ms st d))) → (tRet (tOp (rCatA K) (tOp (rCatA K) (tSl (rSlA K) (tVar 1) tNoPart (tPart (tVar 3))) (tTup (tCons (tVar 5) tNil))) (tSl (rSlA K) (tVar 1) (tPart (tOp (rI0 fun i j => .int (i + j)) (tVar 3) (tC (.int 1)))) tNoPart))) { nx := fun _ H' => Q .non H', rt := Q } ((((start ["web", "standing", "deed", "room", "tags", "here"] [v, v2, v3]).set 3 (some v4)).set 4 (some v5)).set 5 (some v7)) H4 := fun H4 v7 e4 i7 => by
    have e14 := R.trans e13 e4
    have e24 : m.R H1 H4 := R.trans (R.trans e2 e3) e4
    have hlen : st.length ≤ 100 := by rw [hs.len]; have := hw.n5; omega
    refine s_ret e4.ok (ev_catT (ev_catT ((ev_slT (ds := st.map dSt1) (ev_var rfl (i2.mono e14)) eo_none (eo_some (ev_var rfl (i4.mono e24)))).is (by rw [cutD_take])) (ev_tup (ds := [dSt1 (hereM ms st d)]) (ea_cons (ev_var rfl i7) ea_nil)) ?_) ((ev_slT (ds := st.map dSt1) (lo := some ((roomD d + 1 : Nat) : Int)) (ev_var rfl (i2.mono e14)) (eo_some ((ev_ii (ev_var rfl (i4.mono e24)) ev_int).is (by congr 2))) eo_none).is (by rw [cutD_drop])) ?_) fun v8 H5 e5 i8 => q _ v8 H5 (R.trans e14 e5) rfl (i8.e ?_)
    · rw [List.length_take, List.length_map, List.length_singleton]
      omega
    · rw [List.length_append, List.length_take, List.length_drop, List.length_map, List.length_singleton]
      omega
    · show PyData.tuple _ = PyData.tuple _
      congr 1
      unfold afterM
      rw [← List.map_take, ← List.map_drop, List.map_set, List.append_assoc, List.set_eq_take_append_cons_drop, if_pos (by rw [List.length_map]; exact hr'), ← List.map_take, ← List.map_drop]
      rfl
  cases d with
  | give r t =>
    refine q_when (b := true) e3.ok ((et_test (ev_eqS (i := word true) (j := "give") (ev_ixT (ds := [.str (word true), .int (r : Int), .int t]) (ev_var rfl (i3.mono e13)) ev_int rfl) ev_str)).is rfl) (fun _ H4 e4 => ?_) fun z => absurd z (by decide)
    have e14 := R.trans e13 e4
    have e34 : m.R H1 H4 := R.trans (R.trans e2 e3) e4
    have e35 : m.R H2 H4 := R.trans e3 e4
    refine s_asg e4.ok (ev_tup (ds := [.bool true, dInts (hereM ms st (.give r t)).2]) (ea_cons ev_bl (ea_cons ((ev_slT (ds := .int t :: (at_ st r).2.map .int) (lo := none) (hi := some ((max 1 (ms.getD r 0) : Nat) : Int)) (ev_catT (ds := [.int t]) (es := (at_ st r).2.map .int) (ev_tup (ds := [.int t]) (ea_cons (ev_ixT (ds := [.str (word true), .int (r : Int), .int t]) (ev_var rfl (i3.mono e14)) ev_int rfl) ea_nil)) (ev_var rfl (i5.mono e35)) ?_) eo_none (eo_some (ev_call (x := ((ms, ts), r)) (ea_cons (ev_var rfl (i1.mono e14)) (ea_cons (ev_var rfl (i4.mono e34)) ea_nil)) hr))).is ?_) ea_nil))) fun v7 H5 e5 i7 => fin H5 v7 (R.trans e4 e5) i7
    · rw [List.length_map]
      have := hs.few _ (at_mem (st := st) (r := r) hr')
      simp only [List.length_singleton]
      omega
    · rw [cutD_take]
      show Dx.d (.tuple (List.take _ ((t :: (at_ st r).2).map .int))) = Dx.d (.tuple (List.map _ (List.take _ (t :: (at_ st r).2))))
      rw [List.map_take]
  | back r =>
    refine q_when (b := false) e3.ok ((et_test (ev_eqS (i := word false) (j := "give") (ev_ixT (ds := [.str (word false), .int (r : Int)]) (ev_var rfl (i3.mono e13)) ev_int rfl) ev_str)).is rfl) (fun z => absurd z (by decide)) fun _ H4 e4 => ?_
    exact fin H4 v6 e4 (i6.mono e4)
end
end K20
end
section
set_option linter.all false
set_option maxRecDepth 100000
set_option maxHeartbeats 2000000
set_option autoImplicit false
namespace K20
open PySem PySem.Spec PyProof.Rows L2 LamX NdefX PySem.W
section
variable {P : Program} {w : World} {K : PySem.W.Frag} {mg : Str → Option Value} {base : Heap}
theorem tied_lt {ms : List Nat} {ts : List (Nat × Nat)} (hw : WebOk ms ts) {r o : Nat} (h : (r, o) ∈ ts ∨ (o, r) ∈ ts) : o < ms.length ∧ r < ms.length := by
  rcases h with h | h
  · have := hw.tie _ h
    simp only at this
    omega
  · have := hw.tie _ h
    simp only at this
    omega
theorem bar_iff {ms : List Nat} {ts : List (Nat × Nat)} (hw : WebOk ms ts) {st : Stand} {r : Nat} {t : Int} : barM ms ts st r t = true ↔ (t ∈ ((at_ st r).2.take (ms.getD r 0)) ∨ ∃ o, ((r, o) ∈ ts ∨ (o, r) ∈ ts) ∧ (at_ st o).1 = true ∧ (at_ st o).2.head? = some t) := by
  unfold barM
  rw [Bool.or_eq_true, decide_eq_true_eq, List.any_eq_true]
  constructor
  · rintro (h | ⟨o, ho, h⟩)
    · exact .inl h
    · rw [Bool.and_eq_true, Bool.and_eq_true] at h
      refine .inr ⟨o, ?_, h.1.2, beq_iff_eq.mp h.2⟩
      have h1 := h.1.1
      unfold tied at h1
      rw [Bool.or_eq_true, decide_eq_true_eq, decide_eq_true_eq] at h1
      exact h1
  · rintro (h | ⟨o, h1, h2, h3⟩)
    · exact .inl h
    · refine .inr ⟨o, List.mem_range.mpr (tied_lt hw h1).1, ?_⟩
      rw [Bool.and_eq_true, Bool.and_eq_true]
      refine ⟨⟨?_, h2⟩, beq_iff_eq.mpr h3⟩
      unfold tied
      rw [Bool.or_eq_true, decide_eq_true_eq, decide_eq_true_eq]
      exact h1
/-! ### raw_barred -/
abbrev spBarred (K : PySem.W.Frag) : Sp := SpP K (fun a : Wb × Stand × Nat => [.web a.1.1 a.1.2, .d (dStand a.2.1), .d (.int (a.2.2 : Int))]) (fun a => WebOk a.1.1 a.1.2 ∧ StOk a.1.1 a.2.1 ∧ a.2.2 < a.1.1.length) (fun a r => ∃ l, r = .d (dInts l) ∧ ∀ x, x ∈ l ↔ barM a.1.1 a.1.2 a.2.1 a.2.2 x = true)
theorem sc_raw_barred : FnScope ["web", "standing", "room", "found", "other"] ["web", "standing", "room"] (defScope s_raw_barred) := ⟨rfl, rfl, rfl, by decide +kernel, rfl, by decide +kernel, by decide +kernel⟩
theorem ok_raw_barred (T : Top K mg) : Cal P w K mg base 2 "raw_barred" ["web", "standing", "room"] (spBarred K) := by
  have G := T.G
  refine T.d_raw_barred.cal sc_raw_barred (fun _ _ _ _ _ _ us hl => match us, hl with | [_, _, _], _ => rfl) (fun _ => rfl) (fun f cdv A outer s H0 E hr => ?_)
  refine ⟨_, (pss_cons (ps_set (i := 3) sc_raw_barred.nd rfl (Or.inl rfl) (pe_callTy (call_setT rfl) (by rfl) G.set_ (by decide +kernel) (pa_cons (pe_slice sl_tupA (pe_ix ix_tup (pe_ix ix_tup (pv 1) (pv 2) (fun _ _ => rfl)) pe_int (fun _ _ => rfl)) po_none (po_some (pe_ix ix_tup (pe_fld (pv 0) rfl) (pv 2) (fun _ _ => rfl)))) pa_nil)))
    (pss_cons (ps_for PassesOwn.never rfl (pi_tup (pe_cal (ok_tied_rooms T) (hr.mono (by decide)) (by rfl) (pa_cons (pv 0) (pa_cons (pv 2) pa_nil)))) (pg_name (i := 4) sc_raw_barred.nd rfl (Or.inl rfl))
    (pss_one (ps_if (pt_val (pe_ix ix_tup (pe_ix ix_tup (pv 1) (pv 4) (fun _ _ => rfl)) pe_int (fun _ _ => rfl))) (pss_one (ps_expr (pe_sadd (pv 3) (pa_cons (pe_ix ix_tup (pe_ix ix_tup (pe_ix ix_tup (pv 1) (pv 4) (fun _ _ => rfl)) pe_int (fun _ _ => rfl)) pe_int (fun _ _ => rfl)) pa_nil)))) pss_nil)))
    (pss_one (ps_ret (pe_callTy call_tuple_of (by rfl) G.tuple_ (by decide +kernel) (pa_cons (pe_callB (cr_sortedSet rfl) (by rfl) G.sorted_ (by decide +kernel) (pa_cons (pv 3) pa_nil)) pa_nil)))))), ?_⟩
  intro m ⟨⟨ms, ts⟩, st, r⟩ H vs Q k i ⟨hw, hs, hr⟩ q
  obtain ⟨v, v2, v3, rfl, i1, i2, i3⟩ := isAll3 i
  simp only at hw hs hr
  have hr' : r < st.length := by rw [hs.len]; exact hr
  have hme := mem_le hw.mem r
  have hsl : EvD m K (tSl (rSlA K) (tOp (rIxT K) (tOp (rIxT K) (tVar 1) (tVar 2)) (tC (.int 1))) tNoPart (tPart (tOp (rIxT K) (tFld K (tVar 0) "memories") (tVar 2)))) (start ["web", "standing", "room", "found", "other"] [v, v2, v3]) H (.d (dInts ((at_ st r).2.take (ms.getD r 0)))) :=
    (ev_slT (ds := (at_ st r).2.map .int) (lo := none) (hi := some ((ms.getD r 0 : Nat) : Int)) (ev_ixT (ds := [.bool (at_ st r).1, dInts (at_ st r).2]) (a := dInts (at_ st r).2) (ev_ixT (ds := st.map dSt1) (ev_var rfl i2) (ev_var rfl i3) (atI_nat (st_at hr'))) ev_int rfl) eo_none (eo_some (ev_ixT (ev_mems (ev_var rfl i1) G.cW G.nM) (ev_var rfl i3) (atI_nat (mem_at hr))))).is (by
      rw [cutD_take]
      show Dx.d (.tuple (List.take _ ((at_ st r).2.map .int))) = Dx.d (.tuple (List.map _ (List.take _ (at_ st r).2)))
      rw [List.map_take])
  refine hsl H (R.refl k) _ fun vt H1 e1 it => ?_
  obtain ⟨pt, xs, rfl, g1, g2⟩ := dp_tup it
  have ex := dpAll_ints g2
  subst ex
  have hbl : ((at_ st r).2.take (ms.getD r 0)).length ≤ 3 := by rw [List.length_take]; omega
  refine ⟨pt, _, rfl, sqT_mono vw_same g1, by omega, fun c p hc _ hp => ?_⟩
  have s1 : Stp m.lo m (m.hide p) H (upd H1 p (SetO w p (fun j => decide (j ∈ (at_ st r).2.take (ms.getD r 0))) c)) := (Stp.of_r e1).trans (Stp.hide e1.ok hp rfl nc_set)
  have hcl : c ≤ 3 := by omega
  have hB : p ∉ m.lo := fun z => by
    obtain ⟨o, ho, _⟩ := k.lo p z
    have := e1.dom p hp
    rw [this] at ho
    cases ho
  refine s_bind (m := m.hide p) (K := K) (te := tCall (spTied K) [] E0 (tCons (tVar 0) (tCons (tVar 2) tNil))) (fun te => tSeq (tFor (iTup K te) (gName 4) (tIfS (tB (tOp (rIxT K) (tOp (rIxT K) (tVar 1) (tVar 4)) (tC (.int 0)))) (tDrop (tSAdd w (tVar 3) (tCons (tOp (rIxT K) (tOp (rIxT K) (tOp (rIxT K) (tVar 1) (tVar 4)) (tC (.int 1))) (tC (.int 0))) tNil))) tNext)) (tRet (tCB (rTupOf K) (tCons (tCB (rSortedSet w) (tCons (tVar 3) tNil)) tNil)))) (fun _ _ _ _ => rfl) s1.ok (es_call (x := ((ms, ts), r)) (ea_cons (ev_var rfl (s1.is i1)) (ea_cons (ev_var rfl (s1.is i3)) ea_nil)) hw) fun rr vl H2 e2 hrr il => ?_
  obtain ⟨l, rfl, hl1, hl2⟩ := hrr
  have s2 := s1.then_r e2
  refine z_forT (B := m.lo) (D := { nx := fun _ H' => Q .non H', rt := Q }) (ds := l.map fun (n : Nat) => PyData.int (n : Int)) e2.ok (ev_cv il) (fun i m' σ' H' => m' = m.hide p ∧ (∃ a, σ' = [some v, some v2, some v3, some (.ref p), a]) ∧ ∃ S n, H' p = some (SetO w p S n) ∧ n ≤ 3 + i ∧ ∀ x, S x = true ↔ (x ∈ (at_ st r).2.take (ms.getD r 0) ∨ ∃ o ∈ l.take i, (at_ st o).1 = true ∧ (at_ st o).2.head? = some x)) (fun H3 e3 => ⟨rfl, ⟨_, rfl⟩, (fun j => decide (j ∈ (at_ st r).2.take (ms.getD r 0))), c, ?_, by omega, fun x => ?_⟩) (fun H3 i d vo m' σ' H' hd e3 s3 pv io => ?_) fun m' σ' H' s3 pv => ?_
  · rw [R.lo e3 (List.mem_cons_self ..), R.lo e2 (List.mem_cons_self ..)]
    exact upd_same
  · rw [decide_eq_true_eq, List.take_zero]
    constructor
    · exact .inl
    · rintro (h | ⟨o, ho, _⟩)
      · exact h
      · cases ho
  · obtain ⟨rfl, ⟨a, rfl⟩, S, n, hS, hn, hx⟩ := pv
    rw [List.getElem?_map] at hd
    obtain ⟨o, ho, rfl⟩ := Option.map_eq_some_iff.mp hd
    have hol : o < st.length := by rw [hs.len]; exact (tied_lt hw ((hl1 o).mp (List.mem_of_getElem? ho))).1
    have s4 : Stp m.lo m (m.hide p) H H' := (s2.then_r e3).trans s3
    have j2 := s4.is i2
    have hst : ∀ H4, (m.hide p).R H' H4 → EvD (m.hide p) K (tOp (rIxT K) (tVar 1) (tVar 4)) ([some v, some v2, some v3, some (.ref p), some vo] : L2.St) H4 (.d (dSt1 (at_ st o))) := fun H4 e4 => ev_ixT (ds := st.map dSt1) (ev_var rfl (j2.mono e4)) (ev_var rfl (io.mono e4)) (atI_nat (st_at hol))
    have hli : i < l.length := (List.getElem?_eq_some_iff.mp ho).1
    have hll : l.length ≤ 20 := Nat.le_trans hl2 hw.few
    have tk : l.take (i + 1) = l.take i ++ [o] := by
      rw [List.take_add_one, ho]
      rfl
    refine s_when (b := (at_ st o).1) s4.ok (et_B (ev_ixT (ds := [.bool (at_ st o).1, dInts (at_ st o).2]) (hst H' (R.refl s4.ok)) ev_int rfl)) (fun hb H4 e4 => ?_) fun hb H4 e4 => ⟨m.hide p, s3.then_r e4, rfl, ⟨_, rfl⟩, S, n, by rw [R.lo e4 (List.mem_cons_self ..)]; exact hS, by omega, fun x => ?_⟩
    · have hne := hs.held _ (at_mem hol) hb
      obtain ⟨t, tl, ht⟩ := List.exists_cons_of_ne_nil hne
      have hH4 : H4 p = some (SetO w p S n) := by rw [R.lo e4 (List.mem_cons_self ..)]; exact hS
      refine ⟨.ref p, rfl, ⟨p, S, n, rfl, hH4⟩, ?_⟩
      refine (ev_ixT (a := .int t) (ds := (at_ st o).2.map .int) (ev_ixT (ds := [.bool (at_ st o).1, dInts (at_ st o).2]) (a := dInts (at_ st o).2) (hst H4 e4) ev_int rfl) ev_int (by rw [ht]; exact atI_nat (i := 0) rfl)) H4 (R.refl e4.ok) _ fun vt H5 e5 it => ?_
      rw [dp_int it]
      have hH5 : H5 p = some (SetO w p S n) := by rw [R.lo e5 (List.mem_cons_self ..)]; exact hH4
      refine ⟨p, t, S, n, rfl, rfl, hH5, by unfold scanBound; omega, ?_⟩
      refine ⟨m.hide p, ((s3.then_r e4).then_r e5).trans (Stp.put e5.ok (List.mem_cons_self ..) hB rfl nc_set), rfl, ⟨_, rfl⟩, (fun j => S j || decide (j = t)), (if S t = true then n else n + 1), upd_same, ?_, fun x => ?_⟩
      · split <;> omega
      · rw [Bool.or_eq_true, decide_eq_true_eq, hx x, tk]
        constructor
        · rintro ((h | ⟨o', ho', h⟩) | rfl)
          · exact .inl h
          · exact .inr ⟨o', List.mem_append_left _ ho', h⟩
          · exact .inr ⟨o, List.mem_append_right _ (List.mem_singleton.mpr rfl), hb, by rw [ht]; rfl⟩
        · rintro (h | ⟨o', ho', h⟩)
          · exact .inl (.inl h)
          · rcases List.mem_append.mp ho' with h' | h'
            · exact .inl (.inr ⟨o', h', h⟩)
            · rw [List.mem_singleton.mp h', ht] at h
              exact .inr (Option.some.inj h.2).symm
    · rw [hx x, tk]
      constructor
      · rintro (h | ⟨o', ho', h⟩)
        · exact .inl h
        · exact .inr ⟨o', List.mem_append_left _ ho', h⟩
      · rintro (h | ⟨o', ho', h⟩)
        · exact .inl h
        · rcases List.mem_append.mp ho' with h' | h'
          · exact .inr ⟨o', h', h⟩
          · rw [List.mem_singleton.mp h', hb] at h
            exact absurd h.1 Bool.false_ne_true
  · obtain ⟨rfl, ⟨a, rfl⟩, S, n, hS, hn, hx⟩ := pv
    rw [List.length_map] at hn hx
    have hll : l.length ≤ 20 := Nat.le_trans hl2 hw.few
    rw [List.take_length] at hx
    have s4 : Stp m.lo m (m.hide p) H H' := s2.trans s3
    refine ⟨.ref p, rfl, p, S, n, rfl, hS, by omega, fun ns pl h1 h2 h3 hpl => ?_⟩
    have s5 : Stp m.lo m (m.hide p) H (upd H' pl (.lst (ns.map V.int))) := s4.then_r (R.new s4.ok hpl)
    refine ⟨pl, ns.map V.int, rfl, .inl ⟨SqL.of upd_same, fun l2 hl2 => ?_⟩⟩
    have r6 : (m.hide p).R (upd H' pl (.lst (ns.map V.int))) (upd (upd H' pl (.lst (ns.map V.int))) l2 (.tup (ns.map V.int))) := R.new s5.ok hl2
    have s6 := s5.then_r r6
    refine q _ _ _ s6.r ⟨ns, rfl, fun x => ?_⟩ (Is.unhide (p := p) (.tup (SqT.of (vw_upd s5.ok hl2 rfl)) (ints_dpAll ns)))
    rw [h2 x, hx x, bar_iff hw]
    constructor
    · rintro (h | ⟨o, ho, h⟩)
      · exact .inl h
      · exact .inr ⟨o, (hl1 o).mp ho, h⟩
    · rintro (h | ⟨o, ho, h⟩)
      · exact .inl h
      · exact .inr ⟨o, (hl1 o).mpr ho, h⟩
/-! ### is_ask -/
abbrev spIsAsk (K : PySem.W.Frag) : Sp := SpF K (fun a : Wb × Stand × Ask => [.web a.1.1 a.1.2, .d (dStand a.2.1), .d (dAsk a.2.2)]) (fun a => WebOk a.1.1 a.1.2 ∧ StOk a.1.1 a.2.1 ∧ askOk a.1.1 a.2.1 a.2.2 = true) (fun a => .d (.bool true))
theorem sc_is_ask : FnScope ["web", "standing", "thing"] ["web", "standing", "thing"] (defScope s_is_ask) := ⟨rfl, rfl, rfl, by decide +kernel, rfl, by decide +kernel, by decide +kernel⟩
theorem ok_is_ask (T : Top K mg) : Cal P w K mg base 4 "is_ask" ["web", "standing", "thing"] (spIsAsk K) := by
  have G := T.G
  refine T.d_is_ask.cal sc_is_ask (fun _ _ _ _ _ _ us hl => match us, hl with | [_, _, _], _ => rfl) (fun _ => rfl) (fun f cdv A outer s H0 E hr => ?_)
  refine ⟨_, (pss_cons (ps_if (PW.pt (pw_or (pt_not (pt_val (pe_callB call_isi (by rfl) G.isinstance_ (by decide +kernel) (pa_cons (pv 2) (pa_cons (pe_bltn (v := .ty "tuple") (by rfl) G.tuple_ (by decide +kernel) rfl) pa_nil))))) (pw_or (pt_cmpR op_ne (pe_callB call_len_seq (by rfl) G.len_ (by decide +kernel) (pa_cons (pv 2) pa_nil)) pe_int (nomark _)) (pw_or (pt_not (pt_val (pe_callB call_isi (by rfl) G.isinstance_ (by decide +kernel) (pa_cons (pe_ix ix_tup (pv 2) pe_int (fun _ _ => rfl)) (pa_cons (pe_bltn (v := .ty "str") (by rfl) G.str_ (by decide +kernel) rfl) pa_nil))))) (pw_or1 (pt_not (pt_val (pe_cal (ok_is_room T) (hr.mono (by decide)) (by rfl) (pa_cons (pv 0) (pa_cons (pe_ix ix_tup (pv 2) pe_int (fun _ _ => rfl)) pa_nil)))))))))) (pss_one (ps_ret pe_bl)) pss_nil)
    (pss_one (ps_ret (pe_cmpR op_eq (pe_ix ix_tup (pv 2) pe_int (fun _ _ => rfl)) (pe_ifExp (pt_val (pe_ix ix_tup (pe_ix ix_tup (pv 1) (pe_ix ix_tup (pv 2) pe_int (fun _ _ => rfl)) (fun _ _ => rfl)) pe_int (fun _ _ => rfl))) pe_str pe_str) (nomark _))))), ?_⟩
  intro m ⟨⟨ms, ts⟩, st, a⟩ H vs Q k i ⟨hw, hs, ha⟩ q
  obtain ⟨v, v2, v3, rfl, i1, i2, i3⟩ := isAll3 i
  simp only at hw hs ha
  unfold askOk at ha
  rw [Bool.and_eq_true, decide_eq_true_eq, beq_iff_eq] at ha
  obtain ⟨hr, hg⟩ := ha
  have hr' : a.2 < st.length := by rw [hs.len]; exact hr
  have g0 : EvD m K (tOp (rIxT K) (tVar 2) (tC (.int 0))) (start ["web", "standing", "thing"] [v, v2, v3]) H (.d (.str (word a.1))) := ev_ixT (ds := [.str (word a.1), .int (a.2 : Int)]) (ev_var rfl i3) ev_int rfl
  have g1 : EvD m K (tOp (rIxT K) (tVar 2) (tC (.int 1))) (start ["web", "standing", "thing"] [v, v2, v3]) H (.d (.int (a.2 : Int))) := ev_ixT (ds := [.str (word a.1), .int (a.2 : Int)]) (ev_var rfl i3) ev_int rfl
  refine q_when (b := false) k ((et_or (et_not (et_B (ev_isi (ev_var rfl i3) (kit_tuple _)))) fun _ => et_or (et_test (ev_neI (ev_lenT (ds := [.str (word a.1), .int (a.2 : Int)]) (ev_var rfl i3)) ev_int)) fun _ => et_or (et_not (et_B (ev_isi g0 (kit_str _)))) fun _ => et_not (et_B (ev_call (x := ((ms, ts), PyData.int (a.2 : Int))) (ea_cons (ev_var rfl i1) (ea_cons g1 ea_nil)) True.intro))).is ?_) (fun z => absurd z Bool.false_ne_true) fun _ H1 e => ?_
  · show (!true || (!decide ((2 : Int) = 2) || (!true || !within (.int (a.2 : Int)) 0 ((ms.length : Int) - 1)))) = false
    rw [within_ok (by omega) (by omega)]
    rfl
  · refine s_ret e.ok (ev_eqS (i := word a.1) (j := if (at_ st a.2).1 = true then "back" else "give") (g0.mono e) (ev_if (b := (at_ st a.2).1) (et_B (ev_ixT (ds := [.bool (at_ st a.2).1, dInts (at_ st a.2).2]) (ev_ixT (ds := st.map dSt1) (a := dSt1 (at_ st a.2)) (ev_var rfl (i2.mono e)) (g1.mono e) (atI_nat (st_at hr'))) ev_int rfl)) (fun hb => ev_str.is (by rw [hb]; rfl)) fun hb => ev_str.is (by rw [hb]; rfl))) fun v H2 e2 i3 => q _ v H2 (R.trans e e2) rfl (i3.e (congrArg PyData.bool ?_))
    rw [hg]
    cases (at_ st a.2).1 <;> rfl
end
end K20
end
section
set_option linter.all false
set_option maxRecDepth 100000
set_option maxHeartbeats 2000000
set_option autoImplicit false
namespace K20
open PySem PySem.Spec PyProof.Rows L2 LamX NdefX PySem.W
theorem et_inR {m : Md} {K : PySem.W.Frag} {σ : L2.St} {H : Hp} {ta tb : TE} {t : Int} {b : Bool} {S : Dx → Prop} (ha : EvD m K ta σ H (.d (.int t))) (hb : EvS m K tb σ H S) (hS : ∀ r, S r → ∃ l, r = .d (dInts l) ∧ (t ∈ l ↔ b = true)) : EvT m (tTest (tOp (rIn K false) ta tb)) σ H b := fun H1 e1 Q q =>
  ha H1 e1 _ fun vt H2 e2 it => hb H2 (R.trans e1 e2) _ fun rr vl H3 e3 hrr il => by
    obtain ⟨l, rfl, hl⟩ := hS rr hrr
    obtain ⟨p, xs, rfl, g1, g2⟩ := dp_tup il
    have ex := dpAll_ints g2
    subst ex
    rw [show vt = .int t from dp_int (it : Dp K (m.vw H2) vt (.int t))]
    refine ⟨p, _, rfl, .inr (sqT_mono vw_same g1), rfl, flat_ints l, ?_⟩
    rw [if_neg Bool.false_ne_true, inV_ints]
    have : decide (t ∈ l) = b := by
      cases b with
      | true => exact decide_eq_true (hl.mpr rfl)
      | false => exact decide_eq_false fun z => absurd (hl.mp z) Bool.false_ne_true
    rw [this]
    exact ⟨_, rfl, q H3 (R.trans e2 e3)⟩
section
variable {P : Program} {w : World} {K : PySem.W.Frag} {mg : Str → Option Value} {base : Heap}
/-! ### first_none, is_row -/
abbrev spFirst (K : PySem.W.Frag) : Sp := SpF K (fun a : Wb × List Ask => [.web a.1.1 a.1.2, .d (dRow a.2)]) (fun a => WebOk a.1.1 a.1.2 ∧ rowOk a.1.1 a.2 = true) (fun a => .d .none)
theorem sc_first_none : FnScope ["web", "thing", "standing", "number", "ask"] ["web", "thing"] (defScope s_first_none) := ⟨rfl, rfl, rfl, by decide +kernel, rfl, by decide +kernel, by decide +kernel⟩
theorem ok_first_none (T : Top K mg) : Cal P w K mg base 5 "first_none" ["web", "thing"] (spFirst K) := by
  have G := T.G
  refine T.d_first_none.cal sc_first_none (fun _ _ _ _ _ _ us hl => match us, hl with | [_, _], _ => rfl) (fun _ => rfl) (fun f cdv A outer s H0 E hr => ?_)
  refine ⟨_, (pss_cons (ps_if (pt_not (pt_val (pe_callB call_isiT (by rfl) G.isinstance_ (by decide +kernel) (pa_cons (pv 1) (pa_cons (pe_tup (pa_cons (pe_bltn (v := .ty "list") (by rfl) G.list_ (by decide +kernel) rfl) (pa_cons (pe_bltn (v := .ty "tuple") (by rfl) G.tuple_ (by decide +kernel) rfl) pa_nil))) pa_nil))))) (pss_one (ps_ret (pe_un un_neg pe_int))) pss_nil)
    (pss_cons (ps_set (i := 2) sc_first_none.nd rfl (Or.inl rfl) (pe_cal (ok_begun T) (hr.mono (by decide)) (by rfl) (pa_cons (pv 0) pa_nil)))
    (pss_cons (ps_for PassesOwn.never rfl (pi_enumT (by rfl) G.enumerate_ (pa_cons (pv 1) pa_nil)) (pg_tup rfl (pgs_cons (pg_name (i := 3) sc_first_none.nd rfl (Or.inl rfl)) (pgs_cons (pg_name (i := 4) sc_first_none.nd rfl (Or.inl rfl)) pgs_nil)))
    (pss_cons (ps_if (pt_not (pt_val (pe_cal (ok_is_ask T) (hr.mono (by decide)) (by rfl) (pa_cons (pv 0) (pa_cons (pv 2) (pa_cons (pv 4) pa_nil)))))) (pss_one (ps_ret (pv 3))) pss_nil)
    (pss_one (ps_set (i := 2) sc_first_none.nd rfl (Or.inl rfl) (pe_cal (ok_raw_after T) (hr.mono (by decide)) (by rfl) (pa_cons (pv 0) (pa_cons (pv 2) (pa_cons (pe_ifExp (pt_cmpR op_eq (pe_ix ix_tup (pv 4) pe_int (fun _ _ => rfl)) pe_str (nomark _)) (pv 4) (pe_op op_catA (pv 4) (pe_tup (pa_cons pe_int pa_nil)))) pa_nil))))))))
    (pss_one (ps_ret pe_non))))), ?_⟩
  intro m ⟨⟨ms, ts⟩, row⟩ H vs Q k i ⟨hw, hrow⟩ q
  obtain ⟨v, v2, rfl, i1, i2⟩ := isAll2 i
  simp only at hw hrow
  refine q_when (b := false) k ((et_not (et_B (ev_isiLT (ev_var rfl i2) rfl))).is rfl) (fun z => absurd z Bool.false_ne_true) fun _ H1 e1 => ?_
  refine q_asg e1.ok (ev_call (x := (ms, ts)) (ea_cons (ev_var rfl (i1.mono e1)) ea_nil) hw.n5) fun v3 H2 e2 i3 => ?_
  have e12 := R.trans e1 e2
  refine q_forE (ps := []) e2.ok (ev_var rfl (i2.mono e12)) (fun n σ' H' => ∃ st, (∃ a b vs, σ' = [some v, some v2, some vs, a, b] ∧ Is m K H' vs (.d (dStand st))) ∧ StOk ms st ∧ rowOkFrom ms st (row.drop n) = true) (fun H6 e6 => ⟨_, ⟨_, _, _, rfl, i3.mono e6⟩, begun_ok ms, hrow⟩) (fun H6 n d v4 σ' H0' H' hd e6 w6 r6 pv hi => ?_) fun σ' H' w pv => ?_
  · obtain ⟨st, ⟨a, b, vst, rfl, ist⟩, hs, ho⟩ := pv
    have e7 : m.R H H' := R.trans (R.trans (R.trans e12 e6) w6) r6
    rw [List.getElem?_map] at hd
    obtain ⟨p, hp, rfl⟩ := Option.map_eq_some_iff.mp hd
    have hlt := (List.getElem?_eq_some_iff.mp hp).1
    have hdr : row.drop n = p :: row.drop (n + 1) := by
      rw [List.drop_eq_getElem_cons hlt]
      rw [(List.getElem?_eq_some_iff.mp hp).2]
    rw [hdr] at ho
    have ho' : (askOk ms st p && rowOkFrom ms (afterM ms st (askDeed p)) (row.drop (n + 1))) = true := ho
    rw [Bool.and_eq_true] at ho'
    obtain ⟨ho1, ho2⟩ := ho'
    have hpr : p.2 < ms.length := by
      unfold askOk at ho1
      rw [Bool.and_eq_true, decide_eq_true_eq] at ho1
      exact ho1.1
    have i3' := ist.mono r6
    refine q_when (b := false) r6.ok ((et_not (et_B (ev_call (x := ((ms, ts), st, p)) (ea_cons (ev_var rfl (i1.mono e7)) (ea_cons (ev_var rfl i3') (ea_cons (ev_var rfl hi) ea_nil))) ⟨hw, hs, ho1⟩))).is rfl) (fun z => absurd z Bool.false_ne_true) fun _ H8 e8 => ?_
    have e78 := R.trans e7 e8
    have hrd : roomD (askDeed p) = p.2 := by
      unfold askDeed
      cases p.1 <;> rfl
    refine s_asg e8.ok (ev_call (x := ((ms, ts), st, askDeed p)) (ea_cons (ev_var rfl (i1.mono e78)) (ea_cons (ev_var rfl (i3'.mono e8)) (ea_cons (ev_if (b := !p.1) ((et_test (ev_eqS (i := word p.1) (j := "back") (ev_ixT (ds := [.str (word p.1), .int (p.2 : Int)]) (ev_var rfl (hi.mono e8)) ev_int rfl) ev_str)).is ?_) (fun hb => (ev_var (r := .d (dAsk p)) rfl (hi.mono e8)).is ?_) fun hb => (ev_catT (ds := [.str (word p.1), .int (p.2 : Int)]) (es := [.int 0]) (ev_var rfl (hi.mono e8)) (ev_tup (ds := [.int 0]) (ea_cons ev_int ea_nil)) (by simp)).is ?_) ea_nil))) ⟨hw, hs, ?_⟩) fun v5 H9 e9 i9 => ?_
    · cases p.1 <;> rfl
    · have : p.1 = false := by
        cases hpb : p.1 with
        | true => rw [hpb] at hb; cases hb
        | false => rfl
      unfold askDeed
      rw [this]
      unfold dAsk
      rw [this]
      rfl
    · have : p.1 = true := by
        cases hpb : p.1 with
        | true => rfl
        | false => rw [hpb] at hb; cases hb
      unfold askDeed
      rw [this]
      rfl
    · show roomD (askDeed p) < ms.length
      rw [hrd]
      exact hpr
    · exact ⟨W.trans (W.trans w6 (R.w r6)) (R.w (R.trans e8 e9)), _, ⟨_, _, _, rfl, i9⟩, after_ok hw.mem hs _, ho2⟩
  · obtain ⟨st, ⟨a, b, vst, rfl, ist⟩, hs, ho⟩ := pv
    refine s_ret w.ok ev_non fun v H9 e9 i9 => q _ v H9 (R.trans (R.trans e12 w) e9) rfl i9
abbrev spIsRow (K : PySem.W.Frag) : Sp := SpF K (fun a : Wb × List Ask => [.web a.1.1 a.1.2, .d (dRow a.2)]) (fun a => WebOk a.1.1 a.1.2 ∧ rowOk a.1.1 a.2 = true) (fun a => .d (.bool true))
theorem sc_is_row : FnScope ["web", "thing"] ["web", "thing"] (defScope s_is_row) := ⟨rfl, rfl, rfl, by decide +kernel, rfl, by decide +kernel, by decide +kernel⟩
theorem ok_is_row (T : Top K mg) : Cal P w K mg base 6 "is_row" ["web", "thing"] (spIsRow K) := by
  have G := T.G
  refine T.d_is_row.cal sc_is_row (fun _ _ _ _ _ _ us hl => match us, hl with | [_, _], _ => rfl) (fun _ => rfl) (fun f cdv A outer s H0 E hr => ?_)
  refine ⟨_, (pss_one (ps_ret (pe_cmpR op_isN (pe_cal (ok_first_none T) (hr.mono (by decide)) (by rfl) (pa_cons (pv 0) (pa_cons (pv 1) pa_nil))) pe_non (nomark _)))), ?_⟩
  intro m ⟨⟨ms, ts⟩, row⟩ H vs Q k i hp q
  obtain ⟨v, v2, rfl, i1, i2⟩ := isAll2 i
  refine s_ret k (ev_isN (a := .none) (ev_call (x := ((ms, ts), row)) (ea_cons (ev_var rfl i1) (ea_cons (ev_var rfl i2) ea_nil)) hp)) fun v H1 e i1 => q _ v H1 e rfl i1
/-! ### word_of -/
abbrev spWord (K : PySem.W.Frag) : Sp := SpF K (fun a : Wb × Nat × Stand × Nat × PyData => [.web a.1.1 a.1.2, .d (.int (a.2.1 : Int)), .d (dStand a.2.2.1), .d (.int (a.2.2.2.1 : Int)), .d a.2.2.2.2]) (fun a => WebOk a.1.1 a.1.2 ∧ StOk a.1.1 a.2.2.1 ∧ a.2.2.2.1 < a.1.1.length)
  (fun a => .d (.str (wordM a.1.1 a.1.2 a.2.1 a.2.2.1 a.2.2.2.1 a.2.2.2.2)))
theorem num_odd (k : Nat) (d : PyData) (h : isInt d = true) : (!isNum d || (match d with | .int t => decide ((k : Int) ≤ t) | _ => false)) = oddM k d := by
  obtain ⟨t, rfl⟩ := int_of h
  show (!decide (0 ≤ t) || decide ((k : Int) ≤ t)) = !(decide (0 ≤ t) && decide (t < (k : Int)))
  rw [Bool.not_and]
  congr 1
  rw [← decide_not]
  exact decide_eq_decide.mpr (by omega)
theorem sc_word_of : FnScope ["web", "k", "standing", "room", "tag"] ["web", "k", "standing", "room", "tag"] (defScope s_word_of) := ⟨rfl, rfl, rfl, by decide +kernel, rfl, by decide +kernel, by decide +kernel⟩
theorem ok_word_of (T : Top K mg) : Cal P w K mg base 3 "word_of" ["web", "k", "standing", "room", "tag"] (spWord K) := by
  have G := T.G
  refine T.d_word_of.cal sc_word_of (fun _ _ _ _ _ _ us hl => match us, hl with | [_, _, _, _, _], _ => rfl) (fun _ => rfl) (fun f cdv A outer s H0 E hr => ?_)
  refine ⟨_, (pss_cons (ps_if (pt_cmpR op_isN (pv 4) pe_non (nomark _)) (pss_one (ps_ret pe_str)) pss_nil)
    (pss_cons (ps_if (PW.pt (pw_or (pt_not (pt_val (pe_cal (ok_is_number T) (hr.mono (by decide)) (by rfl) (pa_cons (pv 4) pa_nil)))) (pw_or1 (pt_cmpR op_ge (pv 4) (pv 1) (nomark _))))) (pss_one (ps_ret pe_str)) pss_nil)
    (pss_one (ps_ret (pe_ifExp (pt_cmpR op_in_seq (pv 4) (pe_cal (ok_raw_barred T) (hr.mono (by decide)) (by rfl) (pa_cons (pv 0) (pa_cons (pv 2) (pa_cons (pv 3) pa_nil)))) (by rfl)) pe_str pe_str))))), ?_⟩
  intro m ⟨⟨ms, ts⟩, k', st, r, tag⟩ H vs Q k i ⟨hw, hs, hr⟩ q
  obtain ⟨v, v2, v3, v4, v5, rfl, i1, i2, i3, i4, i5⟩ := isAll5 i
  simp only at hw hs hr
  refine q_when (b := isNon tag) k (et_test (ev_isN (ev_var rfl i5))) (fun hb H1 e1 => ?_) fun hb H1 e1 => ?_
  · have : tag = .none := by
      cases tag <;> first | rfl | cases hb
    subst this
    exact s_ret e1.ok ev_str fun v H2 e2 i2 => q _ v H2 (R.trans e1 e2) rfl i2
  · have hodd : ∀ d : PyData, isInt d = false → isNon d = false → oddM k' d = true ∧ ∀ a b c e, wordM a b c e r d = "odd" := fun d h1 h2 => by
      cases d <;> first | (cases h2; done) | (cases h1; done) | exact ⟨rfl, fun _ _ _ _ => rfl⟩
    cases hint : isInt tag with
    | false =>
      refine q_when (b := true) e1.ok ((et_or (b := true) (et_not (et_B (ev_call (x := tag) (ea_cons (ev_var rfl (i5.mono e1)) ea_nil) True.intro))) fun z => ?_).is (by rw [Bool.or_true])) (fun _ H2 e2 => ?_) fun z => absurd z (by decide)
      · have : isNum tag = false := by
          cases tag <;> first | rfl | cases hint
        have z2 : (!isNum tag) = false := z
        rw [this] at z2
        cases z2
      · exact s_ret e2.ok (ev_str.is (by rw [← (hodd tag hint hb).2 ms ts k' st])) fun v H3 e3 i3 => q _ v H3 (R.trans (R.trans e1 e2) e3) rfl i3
    | true =>
      obtain ⟨t, rfl⟩ := int_of hint
      refine q_when (b := oddM k' (.int t)) e1.ok ((et_or (et_not (et_B (ev_call (x := PyData.int t) (ea_cons (ev_var rfl (i5.mono e1)) ea_nil) True.intro))) fun _ => et_test (ev_ib (g := fun i j => decide (j ≤ i)) (ev_var rfl (i5.mono e1)) (ev_var rfl (i2.mono e1)))).is (num_odd k' (.int t) rfl)) (fun ho H2 e2 => ?_) fun ho H2 e2 => ?_
      · refine s_ret e2.ok ev_str fun v H3 e3 i3 => q _ v H3 (R.trans (R.trans e1 e2) e3) rfl (i3.e (congrArg PyData.str ?_))
        show "odd" = (if oddM k' (.int t) = true then ("odd" : Str) else _)
        rw [if_pos ho]
      · have e12 := R.trans e1 e2
        have hval : ∀ b : Bool, b = barM ms ts st r t → (if b = true then ("barred" : Str) else "kept") = wordM ms ts k' st r (.int t) := fun b hb => by
          show _ = (if oddM k' (.int t) = true then ("odd" : Str) else if barM ms ts st r t = true then "barred" else "kept")
          refine Eq.trans ?_ (if_neg (c := oddM k' (.int t) = true) (by rw [ho]; decide)).symm
          rw [hb]
        refine s_ret e2.ok (ev_if (b := barM ms ts st r t) ?_ (fun hb => ev_str.is (by show Dx.d (.str "barred") = Dx.d (.str (wordM ms ts k' st r (.int t))); rw [← hval true hb.symm]; rfl)) fun hb => ev_str.is (by show Dx.d (.str "kept") = Dx.d (.str (wordM ms ts k' st r (.int t))); rw [← hval false hb.symm]; rfl)) fun v H3 e3 i3 => q _ v H3 (R.trans e12 e3) rfl i3
        exact et_inR (ev_var rfl (i5.mono e12)) (es_call (x := ((ms, ts), st, r)) (pre := fun a : Wb × Stand × Nat => WebOk a.1.1 a.1.2 ∧ StOk a.1.1 a.2.1 ∧ a.2.2 < a.1.1.length) (post := fun a rr => ∃ l, rr = .d (dInts l) ∧ ∀ x, x ∈ l ↔ barM a.1.1 a.1.2 a.2.1 a.2.2 x = true) (ea_cons (ev_var rfl (i1.mono e12)) (ea_cons (ev_var rfl (i3.mono e12)) (ea_cons (ev_var rfl (i4.mono e12)) ea_nil))) ⟨hw, hs, hr⟩) fun rr ⟨l, e, hl⟩ => ⟨l, e, hl t⟩
end
end K20
end
section
set_option linter.all false
set_option maxRecDepth 100000
set_option maxHeartbeats 2000000
set_option autoImplicit false
namespace K20
open PySem PySem.Spec PyProof.Rows L2 LamX NdefX PySem.W
/-! ### calls of closures: their cells are hidden while they run -/
theorem nc_cell {p : Addr} {v : V} : NC p (CellO p v) := fun q e => by
  unfold CellO LamX.CodeO at e
  have e2 := HO.ext.inj e
  let o : Obj := { cls := .none, data := .fields #[.none, .str q 0] }
  let h : Heap := { objs := Array.replicate (p + 1) o }
  have hg : h.get? p = some o := by
    have h1 : (Array.replicate (p + 1) o)[p]? = some o := by simp
    unfold Heap.get?
    show (match (Array.replicate (p + 1) o)[p]? with | some ⟨_, _, .freed, _⟩ => none | o => o) = some o
    rw [h1]
  have hC : ∃ (oc : Obj) (vs : Array Value) (t : Tok), h.get? p = some oc ∧ oc.data = .fields vs ∧ vs[1]? = some (.str q t) := ⟨o, _, 0, hg, rfl, rfl⟩
  have hS : ∃ u, RelV v u ∧ h.IsCell p (some u) := by
    have := congrFun e2 h
    rw [this]
    exact hC
  obtain ⟨u, _, o2, ho, hd⟩ := hS
  rw [hg] at ho
  cases ho
  cases hd
section
variable {P : Program} {w : World} {H H' : Hp} {h : Heap}
theorem objOk_cng (ht : ∀ b xs, H b = some (.tup xs) → H' b = some (.tup xs)) (ho : ∀ b x, H b = some (.own x) → H' b = some (.own x)) : ∀ (o : HO) (a : Addr), ObjOk P w H h a o → ObjOk P w H' h a o
  | .lst _, _, x => x
  | .tup _, _, x => x
  | .dK _, _, x => x
  | .dT _, _, x => by
    obtain ⟨a, b, xs, p, r⟩ := x
    exact ⟨a, b, xs, Paired.mapP p fun _ _ z => ⟨z.1, ht _ _ z.2.1, z.2.2⟩, r⟩
  | .set _ _, _, x => x
  | .ins _ _ _, _, x => ⟨ho _ _ x.1, x.2⟩
  | .own _, _, x => x
  | .xd _, _, x => x
  | .rng _ _, _, x => x
  | .frz o u, a, x => ⟨x.1, objOk_cng ht ho u a x.2⟩
  | .tbl _, _, x => x
  | .met _ _, _, x => x
  | .ext _, _, x => x
open Classical in
noncomputable def rest (cs : List Addr) (H H' : Hp) : Hp := fun b => if b ∈ cs then H b else H' b
theorem rest_in {cs : List Addr} {b : Addr} (h : b ∈ cs) : rest cs H H' b = H b := by
  unfold rest
  rw [if_pos h]
theorem rest_out {cs : List Addr} {b : Addr} (h : b ∉ cs) : rest cs H H' b = H' b := by
  unfold rest
  rw [if_neg h]
def CellsIn (cs : List Addr) (H : Hp) : Prop := ∀ c ∈ cs, ∃ v, H c = some (CellO c v)
theorem hok_del {cs : List Addr} (hok : HOk P w H h) (hcs : CellsIn cs H) : HOk P w (del cs H) h := fun a o e => by
  obtain ⟨e1, n1⟩ := of_del e
  refine objOk_cng (fun b xs e2 => ?_) (fun b x e2 => ?_) o a (hok a o e1)
  · refine del_of e2 fun z => ?_
    obtain ⟨v, e3⟩ := hcs b z
    rw [e2] at e3
    cases e3
  · refine del_of e2 fun z => ?_
    obtain ⟨v, e3⟩ := hcs b z
    rw [e2] at e3
    cases e3
theorem env0_del {K : PySem.W.Frag} {mg : Str → Option Value} {base : Heap} {A : Around} {outer : List Env} {s : Shared} {cs : List Addr} (e : Env0 P w K mg base A outer s H) (hcs : CellsIn cs H) : Env0 P w K mg base A outer s (del cs H) := by
  have nn : ∀ b, H b = none → del cs H b = none := fun b hb => by
    unfold del
    split
    · rfl
    · exact hb
  exact ⟨e.frames, e.mod, fun b o q => ⟨(e.bs b o q).1, nn _ (e.bs b o q).2⟩, e.bsz, e.funs, fun b hb => nn _ (e.frf b hb), hok_del e.hok hcs, e.bare⟩
theorem ce_rest {outer : List Env} {s s' : Shared} {cs : List Addr} {Q Q2 : VK} {u : Value} (hok : HOk P w H s.heap) (frf : ∀ b ∈ frs outer, H b = none) (hcs : CellsIn cs H) (hc : CE outer P w (del cs H) s Q u s')
    (hq : ∀ v H', (∀ c ∈ cs, H' c = none) → Q v H' → Q2 v (rest cs H H')) : CE outer P w H s Q2 u s' := by
  obtain ⟨v, H', os, bare, un, hok', rv, q⟩ := hc
  have cell : ∀ c ∈ cs, ∃ o, s.heap.get? c = some o ∧ s'.heap.get? c = some o ∧ H' c = none := fun c hc => by
    obtain ⟨v0, e0⟩ := hcs c hc
    obtain ⟨_, ⟨o, ho⟩, _⟩ := hok c _ e0
    have nf : c ∉ frs outer := fun z => by
      rw [frf c z] at e0
      cases e0
    exact ⟨o, ho, un.keep c o ho (del_free hc) nf (by simp), un.free c o ho (del_free hc) (by simp)⟩
  have dn : ∀ b, H b = none → del cs H b = none := fun b hb => by
    unfold del
    split
    · rfl
    · exact hb
  have nin : ∀ b o, H b = some o → isExt o = false → b ∉ cs := fun b o e hx z => by
    obtain ⟨v0, e0⟩ := hcs b z
    rw [e] at e0
    rw [Option.some.inj e0] at hx
    cases hx
  have nnone : ∀ b, H b = none → b ∉ cs := fun b e z => by
    obtain ⟨v0, e0⟩ := hcs b z
    rw [e] at e0
    cases e0
  refine ⟨v, rest cs H H', os, bare, ⟨fun b o q n hb hx => un.keep b o q (dn b n) hb hx, fun b o q n hb hx => un.slot b o q (dn b n) hb hx, fun b o q n hx => ?_, un.there, fun b xs e => ?_, fun b o x e => ?_, fun b ps e => ?_⟩, fun b o e => ?_, rv, hq v H' (fun c hc => by obtain ⟨_, _, _, e⟩ := cell c hc; exact e) q⟩
  · rw [rest_out (nnone b n)]
    exact un.free b o q (dn b n) hx
  · have nb := nin b _ e rfl
    rw [rest_out nb]
    exact un.tups b xs (del_of e nb)
  · have nb := nin b _ e rfl
    rw [rest_out nb]
    exact un.frzs b o x (del_of e nb)
  · have nb := nin b _ e rfl
    rw [rest_out nb]
    exact un.tbls b ps (del_of e nb)
  · by_cases hb : b ∈ cs
    · rw [rest_in hb] at e
      obtain ⟨v0, e0⟩ := hcs b hb
      rw [e0] at e
      cases e
      obtain ⟨o1, g1, g2, g3⟩ := cell b hb
      obtain ⟨hφ, _, hst⟩ := hok b _ e0
      exact ⟨hst _ _ hφ fun o ho => by rw [g1] at ho; rw [← Option.some.inj ho]; exact g2, ⟨o1, g2⟩, hst⟩
    · rw [rest_out hb] at e
      have nH : ∀ b' o', H' b' = some o' → rest cs H H' b' = some o' := fun b' o' e' => by
        rw [rest_out fun z => ?_]
        · exact e'
        · obtain ⟨_, _, _, g3⟩ := cell b' z
          rw [e'] at g3
          cases g3
      exact objOk_cng (fun b' xs e' => nH _ _ e') (fun b' x e' => nH _ _ e') o b (hok' b o e)
end
/-! ### modes without the cells -/
section
variable {m : Md} {K : PySem.W.Frag} {H H' : Hp} {cs : List Addr} {v : V}
theorem vw_del : m.vw (del cs H) = del cs (m.vw H) := by
  funext b
  unfold Md.vw del
  by_cases h1 : m.at b
  · by_cases h2 : b ∈ cs <;> simp [h1, h2]
  · by_cases h2 : b ∈ cs <;> simp [h1, h2]
/-- cells that the mode sees -/
def CellsSeen (m : Md) (cs : List Addr) (H : Hp) : Prop := ∀ c ∈ cs, ∃ v, m.vw H c = some (CellO c v)
theorem CellsSeen.in_ (h : CellsSeen m cs H) : CellsIn cs H := fun c hc => by
  obtain ⟨v, e⟩ := h c hc
  exact ⟨v, vw_sub e⟩
theorem ok_del (k : m.ok H) (h : CellsSeen m cs H) : m.ok (del cs H) := by
  have nin : ∀ b o, H b = some o → isExt o = false → b ∉ cs := fun b o e hx z => by
    obtain ⟨v0, e0⟩ := h.in_ b z
    rw [e] at e0
    rw [Option.some.inj e0] at hx
    cases hx
  have ncode : ∀ b q, H b = some (CodeO b q) → b ∉ cs := fun b q e z => by
    obtain ⟨v0, e0⟩ := h.in_ b z
    rw [e] at e0
    exact nc_cell q (Option.some.inj e0).symm
  have nlo : ∀ b, m.at b → b ∉ cs := fun b hb z => by
    obtain ⟨v0, e0⟩ := h b z
    exact vw_at e0 hb
  refine ⟨fun p hp => ?_, fun a c l e => ?_, fun p hp => ?_, k.apart⟩
  · obtain ⟨ps, h1, h2, h3⟩ := k.tabs p hp
    refine ⟨ps, del_of h1 (nin _ _ h1 rfl), h2, fun pos cv hc => ?_⟩
    obtain ⟨c, e1, e2⟩ := h3 pos cv hc
    exact ⟨c, e1, del_of e2 (ncode _ _ e2)⟩
  · obtain ⟨i, x, s, t, e1, e2, e3, e4, e5⟩ := k.hand a c l e
    exact ⟨i, x, s, t, del_of e1 (nin _ _ e1 rfl), e2, e3, del_of e4 (nin _ _ e4 rfl), e5⟩
  · obtain ⟨o, h1, h2, h3⟩ := k.lo p hp
    exact ⟨o, del_of h1 (nlo p (.inr hp)), h2, h3⟩
theorem r_rest (k : m.ok H) (h : CellsSeen m cs H) (r : m.R (del cs H) H') (hn : ∀ c ∈ cs, H' c = none) : m.R H (rest cs H H') := by
  have out : ∀ b o, H' b = some o → rest cs H H' b = some o := fun b o e => by
    rw [rest_out fun z => by rw [hn b z] at e; cases e]
    exact e
  have nlo : ∀ b, m.at b → b ∉ cs := fun b hb z => by
    obtain ⟨v0, e0⟩ := h b z
    exact vw_at e0 hb
  refine ⟨⟨fun p hp => ?_, fun a c l e => ?_, fun p hp => ?_, k.apart⟩, fun b o e => ?_, fun b e => ?_, fun p hp _ => ?_⟩
  · exact (r.ok.tabs p hp).ext out
  · obtain ⟨i, x, s, t, e1, e2, e3, e4, e5⟩ := r.ok.hand a c l e
    exact ⟨i, x, s, t, out _ _ e1, e2, e3, out _ _ e4, e5⟩
  · obtain ⟨o, h1, h2, h3⟩ := r.ok.lo p hp
    exact ⟨o, out _ _ h1, h2, h3⟩
  · by_cases hb : b ∈ cs
    · refine vw_of ?_ (vw_tbl e) (vw_at e)
      rw [rest_in hb]
      exact vw_sub e
    · have e1 : m.vw (del cs H) b = some o := by
        rw [vw_del]
        exact del_of e hb
      have e2 := r.ex b o e1
      exact vw_of (out _ _ (vw_sub e2)) (vw_tbl e) (vw_at e)
  · by_cases hb : b ∈ cs
    · rw [rest_in hb] at e
      exact e
    · rw [rest_out hb] at e
      have := r.dom b e
      unfold del at this
      rw [if_neg hb] at this
      exact this
  · have nb := nlo p (.inr hp)
    rw [rest_out nb, R.lo r hp]
    unfold del
    rw [if_neg nb]
theorem vw_rest (hn : ∀ c ∈ cs, H' c = none) : Same (m.vw H') (m.vw (rest cs H H')) := fun b o e => by
  have e1 := vw_sub e
  refine vw_of ?_ (vw_tbl e) (vw_at e)
  rw [rest_out fun z => by rw [hn b z] at e1; cases e1]
  exact e1
/-- data do not rest on cells -/
def SameX (H H' : Hp) : Prop := ∀ b o, H b = some o → isExt o = false → H' b = some o
theorem del_sameX (hcs : CellsIn cs H) : SameX H (del cs H) := fun b o e hx => del_of e fun z => by
  obtain ⟨v0, e0⟩ := hcs b z
  rw [e] at e0
  rw [Option.some.inj e0] at hx
  cases hx
theorem sqL_monoX {a : Addr} {xs : List V} (e : SameX H H') (h : SqL K H a xs) : SqL K H' a xs := by
  rcases h with (h | ⟨o, h⟩) | h
  · exact .inl (.inl (e _ _ h rfl))
  · exact .inl (.inr ⟨o, e _ _ h rfl⟩)
  · exact .inr h
theorem sqT_monoX {a : Addr} {xs : List V} (e : SameX H H') (h : SqT K H a xs) : SqT K H' a xs := by
  rcases h with (h | ⟨o, h⟩) | h
  · exact .inl (.inl (e _ _ h rfl))
  · exact .inl (.inr ⟨o, e _ _ h rfl⟩)
  · exact .inr h
mutual
theorem Dp.monoX (e : SameX H H') : ∀ (d : PyData) (v : V), Dp K H v d → Dp K H' v d
  | .none, _, .non => .non
  | .bool _, _, .bl b => .bl b
  | .int _, _, .int i => .int i
  | .str _, _, .str x => .str x
  | .list ds, _, .lst h1 h2 => .lst (sqL_monoX e h1) (DpAll.monoX e ds _ h2)
  | .tuple ds, _, .tup h1 h2 => .tup (sqT_monoX e h1) (DpAll.monoX e ds _ h2)
  | .dict _, _, h => by cases h
theorem DpAll.monoX (e : SameX H H') : ∀ (ds : List PyData) (vs : List V), DpAll K H vs ds → DpAll K H' vs ds
  | [], _, .nil => .nil
  | d :: ds, _, .cons h1 h2 => .cons (Dp.monoX e d _ h1) (DpAll.monoX e ds _ h2)
end
theorem seen_sameX (h : CellsSeen m cs H) : SameX (m.vw H) (m.vw (del cs H)) := by
  rw [vw_del]
  exact del_sameX h
theorem is_del_d (h : CellsSeen m cs H) {d : PyData} (i : Is m K H v (.d d)) : Is m K (del cs H) v (.d d) := Dp.monoX (seen_sameX h) _ _ i
theorem is_del_web (h : CellsSeen m cs H) {ms : List Nat} {ts : List (Nat × Nat)} (i : Is m K H v (.web ms ts)) : Is m K (del cs H) v (.web ms ts) := by
  obtain ⟨a, dx, fs, p, q, h0, h1, h2, h3, h4, h5⟩ := i
  have e := seen_sameX h
  exact ⟨a, dx, fs, p, q, h0, e _ _ h1 rfl, h2, h3, Dp.monoX e _ _ h4, Dp.monoX e _ _ h5⟩
theorem is_rest_d (hn : ∀ c ∈ cs, H' c = none) {d : PyData} (i : Is m K H' v (.d d)) : Is m K (rest cs H H') v (.d d) := Dp.mono (vw_rest hn) _ _ i
end
/-! ### the call of a value -/
def FnHere (H : Hp) (f : Addr) : Prop := (∃ F, H f = some (FnO f F)) ∨ ∃ cl c', H f = some (LamO f cl c')
def CrV (X : Cx) (R : V → List V → Hp → VK → Prop) : Prop := ∀ (pins : List (Addr × Obj)) (s : Shared) (σ : L2.St) (H : Hp) (f : Addr) (vs : List V) (us : List Value) (Q : VK), Inv X pins σ H s → Vals vs us → R (.ref f) vs H Q →
  FnHere H f ∧ wpAny (model X.prog X.w) X.A (call (.ref f) us) (EP X pins σ Q) X.xe s
def tCallV (R : V → List V → Hp → VK → Prop) (tf : TE) (t : TA) : TE := fun σ H Q => tf σ H fun v H1 => (∃ f, v = .ref f ∧ FnHere H1 f) ∧ t σ H1 fun vs H2 => R v vs H2 Q
section
variable {X : Cx} {pins : List (Addr × Obj)} {σ : L2.St} {H : Hp} {s : Shared} {f : Addr}
theorem fnHere_at (I : Inv X pins σ H s) (h : FnHere H f) : PySem.W.FnAt f s.heap := by
  rcases h with ⟨F, e⟩ | ⟨cl, c', e⟩
  · exact fnAt_of I e
  · obtain ⟨⟨od, sl, pm, ctv, ho⟩, _, _⟩ := I.hok f _ e
    exact ⟨_, od, _, sl, ho⟩
theorem pe_callV {R : V → List V → Hp → VK → Prop} {x : Str} {p pos : Pos} {e : Expr} {es : List Expr} {t : TA} {i : Nat} (C : CrV X R) (hN : X.N[i]? = some x) (hv : Vis X.env.scope x) (ha : PA X (e :: es) t) (hd : (x == ("__debug__" : Str)) = false := by decide) (hcd : (x == ("__classdict__" : Str)) = false := by decide)
    (he : starEach (e :: es) X.env = (false, eval e X.env) :: starEach es X.env := by rfl) (hpl : (backTo pos (starEach es X.env)).any (·.1) = false := by rfl) : PE X (.Call (.Name x p) (e :: es) [] pos) (tCallV R (tVar i) t) := by
  refine ⟨fun pins s σ H Q I h => ?_⟩
  refine wpAny_Call_Name_kw (thn ((pe_var (pos := p) hN hv hd hcd).run pins s σ H _ I h) fun u s1 ⟨v, H1, I1, r1, hq, q1⟩ => ?_)
  obtain ⟨f, rfl, hf⟩ := hq
  obtain rfl : u = Value.ref f := r1
  refine PySem.W.callWith_F (first := []) (fnHere_at I1 hf) (thn (ha.run pos pins s1 σ H1 _ I1 q1) fun us s2 ⟨vs, H2, I2, r, q⟩ => ?_) he hpl
  obtain ⟨h1, h2⟩ := C pins s2 σ H2 f vs us Q I2 r q
  exact ⟨fnHere_at I2 h1, h2⟩
end
end K20
end
section
set_option linter.all false
set_option maxRecDepth 100000
set_option maxHeartbeats 2000000
set_option autoImplicit false
namespace K20
open PySem PySem.Spec PyProof.Rows L2 LamX NdefX PySem.W
/-! ### a nested def that has captured cells and cells of its own -/
theorem cellsFrom_app : ∀ (names : List (Str × NameKind)) (n : Nat) (acc acc' : List (Str × Addr)), cellsFrom n names (acc ++ acc') = cellsFrom n names acc ++ acc'
  | [], _, _, _ => rfl
  | (x, k) :: r, n, acc, acc' => by
    unfold cellsFrom
    split
    · exact cellsFrom_app r (n + 1) ((x, n) :: acc) acc'
    · exact cellsFrom_app r n acc acc'
theorem cellsFrom_key {x : Str} {c : Addr} : ∀ (names : List (Str × NameKind)) (n : Nat) (acc : List (Str × Addr)), (x, c) ∈ cellsFrom n names acc → (x, NameKind.cell) ∈ names ∨ (x, c) ∈ acc
  | [], _, _, h => .inr h
  | (y, k) :: r, n, acc, h => by
    unfold cellsFrom at h
    split at h
    · rename_i hk
      rcases cellsFrom_key r (n + 1) _ h with h | h
      · exact .inl (List.mem_cons_of_mem _ h)
      · rcases List.mem_cons.mp h with e | h
        · cases e
          have : k = NameKind.cell := by
            cases k <;> first | rfl | cases hk
          rw [this]
          exact .inl (List.mem_cons_self ..)
        · exact .inr h
    · rcases cellsFrom_key r n acc h with h | h
      · exact .inl (List.mem_cons_of_mem _ h)
      · exact .inr h
section
variable {M : Model} {A : Around} {E : Value → Shared → Prop} {s₀ s : Shared} {m cm : Str → Option Value} {env : Env} {own : List (Str × Addr)}
theorem stLk {n : Str} {v : Value} {Q : Unit → Shared → Prop} (x : InCallC s₀ env.locals m own cm s) (hk : env.scope.kind = .function) (hl : env.kindOf n = some .local)
    (h : ∀ s', InCallC s₀ env.locals (fun y => if y = n then some v else m y) own cm s' → Q () s') : wpAny M A (storeName env n v) Q E s := by
  refine wpAny_storeName_local hl x.toInCall.ns (fun h' hn' hs' => h _ ⟨⟨?_, hn', fun b o e => ?_, x.toInCall.fresh⟩, fun k c hc => ?_, x.apart, x.above⟩) (by rw [hk]; rfl)
  · obtain ⟨h₁, tk, rfl⟩ := x.toInCall.same
    exact ⟨h', _, rfl⟩
  · exact hs'.extBut b o (Nat.ne_of_lt (Nat.lt_of_lt_of_le (Heap.lt_size e) x.toInCall.fresh)) (x.toInCall.keep b o e)
  · exact (x.cell k c hc).sameBut hs' (Nat.ne_of_gt (x.above k c (PySem.mem_of_lookup hc)))
theorem stCk {n : Str} {c : Addr} {v : Value} {Q : Unit → Shared → Prop} (x : InCallC s₀ env.locals m own cm s) (hk : env.scope.kind = .function) (hl : env.kindOf n = some .cell)
    (hc : own.lookup n = some c) (hc2 : env.cells.lookup n = some c)
    (h : ∀ s', InCallC s₀ env.locals m own (fun y => if y = n then some v else cm y) s' → Q () s') : wpAny M A (storeName env n v) Q E s := by
  have hLc := x.above n c (PySem.mem_of_lookup hc)
  refine wpAny_storeName_cell hk hl hc2 (x.cell n c hc) fun h' hc' hs' => h _ ⟨⟨?_, x.toInCall.ns.sameBut hs' (Nat.ne_of_lt hLc), fun b o e => ?_, x.toInCall.fresh⟩, fun k c' hk' => ?_, x.apart, x.above⟩
  · obtain ⟨h₁, tk, rfl⟩ := x.toInCall.same
    exact ⟨h', _, rfl⟩
  · exact hs'.extBut b o (Nat.ne_of_lt (Nat.lt_trans (Nat.lt_of_lt_of_le (Heap.lt_size e) x.toInCall.fresh) hLc)) (x.toInCall.keep b o e)
  · by_cases hkn : k = n
    · subst hkn
      rw [hc] at hk'; cases hk'
      simpa using hc'
    · rw [if_neg hkn]
      exact (x.cell k c' hk').sameBut hs' fun e => hkn (name_of_addr x.apart (PySem.mem_of_lookup hk') (e ▸ PySem.mem_of_lookup hc))
theorem bindPk (f : Str × Value → PUnit → Sem (ForInStep PUnit)) (hf : ∀ n v u, f (n, v) u = (do storeName env n v; pure (.yield ⟨⟩))) (hk : env.scope.kind = .function) :
    ∀ (binds : List (Str × Value)) (m cm : Str → Option Value) (s : Shared) (Q : PUnit → Shared → Prop), InCallC s₀ env.locals m own cm s →
      (∀ x ∈ binds, env.kindOf x.1 = some .local ∨ (env.kindOf x.1 = some .cell ∧ ∃ c, own.lookup x.1 = some c ∧ env.cells.lookup x.1 = some c)) →
      (∀ s', InCallC s₀ env.locals (bindL env.kindOf binds m) own (bindC env.kindOf binds cm) s' → Q ⟨⟩ s') → wpAny M A (forIn binds ⟨⟩ f) Q E s
  | [], m, cm, s, Q, x, _, h => by rw [List.forIn_nil]; exact wpAny_pure (h s x)
  | (n, v) :: r, m, cm, s, Q, x, hkind, h => by
    rw [List.forIn_cons, hf]
    have hr : ∀ y ∈ r, env.kindOf y.1 = some .local ∨ (env.kindOf y.1 = some .cell ∧ ∃ c, own.lookup y.1 = some c ∧ env.cells.lookup y.1 = some c) := fun y hy => hkind y (List.mem_cons_of_mem _ hy)
    rcases hkind (n, v) List.mem_cons_self with hl | ⟨hl, c, hc, hc2⟩
    · refine wpAny_bind (wpAny_bind (stLk x hk hl fun s' x' => wpAny_pure (bindPk f hf hk r _ _ s' Q x' hr fun s'' x'' => h s'' ?_)))
      unfold bindL bindC; rw [if_pos hl, if_pos hl]; exact x''
    · have hnl : ¬ env.kindOf n = some .local := by rw [hl]; decide
      refine wpAny_bind (wpAny_bind (stCk x hk hl hc hc2 fun s' x' => wpAny_pure (bindPk f hf hk r _ _ s' Q x' hr fun s'' x'' => h s'' ?_)))
      unfold bindL bindC; rw [if_neg hnl, if_neg hnl]; exact x''
theorem newEnvK {scope : Scope} {globals : Addr} {closure : List (Str × Addr)} {binds : List (Str × Value)} {qual : Str} {func : Option Addr} {code : Value} {builtins : Addr} {Q : Env → Shared → Prop}
    (hk : scope.kind = .function)
    (hkind : ∀ x ∈ binds, scope.names.lookup x.1 = some .local ∨ (scope.names.lookup x.1 = some .cell))
    (hQ : ∀ env, env = newEnv scope s.heap.objs.size globals (cellsFrom (s.heap.objs.size + 1) scope.names closure) qual func code none builtins →
      ∀ s', InCallC s env.locals (bindL env.kindOf binds fun _ => none) (cellsFrom (s.heap.objs.size + 1) scope.names []) (bindC env.kindOf binds fun _ => none) s' → Q env s') :
    wpAny M A (newFunctionEnv scope globals closure binds qual func code none builtins) Q E s := by
  simp only [newFunctionEnv, Option.isSome_none, Bool.false_eq_true, if_false]
  refine wpAny_bind (wpAny_alloc ?_)
  refine wpAny_bind (wpAny_layCells _ (fun name kind cells => by cases hkc : kind == NameKind.cell <;> simp [hkc]) _ _ _ _ ?_)
  have ok := cellsFrom_ok scope.names (s.heap.push { cls := .type "frame", data := .dict #[] }) (s.heap.objs.size + 1) [] ⟨fun _ _ hm => (nomatch hm), List.Pairwise.nil⟩ (by rw [Heap.size_push]; exact Nat.le_refl _)
  rw [Heap.size_push] at ok
  rw [show ({ s with heap := s.heap.push { cls := .type "frame", data := .dict #[] } } : Shared).heap.objs.size = s.heap.objs.size + 1 from Heap.size_push ..]
  refine wpAny_bind (bindPk (s₀ := s) (own := cellsFrom (s.heap.objs.size + 1) scope.names []) (env := newEnv scope s.heap.objs.size globals (cellsFrom (s.heap.objs.size + 1) scope.names closure) qual func code none builtins)
    _ (fun _ _ _ => rfl) hk binds (fun _ => none) (fun _ => none) _ _
    ⟨⟨⟨_, _, rfl⟩, (Heap.Ns.new s.heap (.type "frame")).keeps (pushCells_keeps _ _), fun b o e => pushCells_keeps _ _ b o (Heap.get?_push_of_some _ e), Nat.le_refl _⟩,
      fun n c hc => (ok.empty n c (PySem.mem_of_lookup hc)).1, ok.apart, fun n c hm => (ok.empty n c hm).2⟩
    (fun x hx => (hkind x hx).imp id fun z => ⟨z, ?_⟩) fun s' x => wpAny_pure (hQ _ rfl s' x))
  have z : scope.names.lookup x.1 = some .cell := z
  obtain ⟨c, hc⟩ := cell_has (n := s.heap.objs.size + 1) z
  refine ⟨c, hc, ?_⟩
  show (cellsFrom (s.heap.objs.size + 1) scope.names closure).lookup x.1 = some c
  have e := cellsFrom_app scope.names (s.heap.objs.size + 1) [] closure
  rw [List.nil_append] at e
  rw [e, List.lookup_append, hc]
  rfl
end
structure KScope (N ps fr : List Str) (sc : Scope) : Prop where
  kind : sc.kind = .function
  co : sc.isCoroutine = false
  gen : sc.isGenerator = false
  nd : N.Nodup
  pre : N.take (ps.length + fr.length) = ps ++ fr
  par : ∀ x ∈ ps, sc.names.lookup x = some .local ∨ sc.names.lookup x = some .cell
  free : ∀ y ∈ sc.names, y.2 = .free → y.1 ∈ fr
  frk : ∀ x ∈ fr, sc.names.lookup x = some .free
  one : ∀ y ∈ sc.names, y.2 = .cell → y.1 ∉ fr
def kscB (N ps fr : List Str) (sc : Scope) : Bool :=
  decide (sc.kind = .function) && !sc.isCoroutine && !sc.isGenerator && decide N.Nodup && decide (N.take (ps.length + fr.length) = ps ++ fr) && ps.all (fun x => decide (sc.names.lookup x = some .local) || decide (sc.names.lookup x = some .cell)) && sc.names.all (fun y => !decide (y.2 = .free) || decide (y.1 ∈ fr)) && fr.all (fun x => decide (sc.names.lookup x = some .free)) && sc.names.all (fun y => !decide (y.2 = .cell) || !decide (y.1 ∈ fr))
theorem kscope_by {N ps fr : List Str} {sc : Scope} (h : kscB N ps fr sc = true) : KScope N ps fr sc := by
  unfold kscB at h
  simp only [Bool.and_eq_true, Bool.not_eq_true', decide_eq_true_eq, List.all_eq_true, Bool.or_eq_true, decide_eq_false_iff_not] at h
  obtain ⟨⟨⟨⟨⟨⟨⟨⟨h1, h2⟩, h3⟩, h4⟩, h5⟩, h6⟩, h8⟩, h9⟩, h10⟩ := h
  exact ⟨h1, h2, h3, h4, h5, h6, fun y hy e => (h8 y hy).elim (fun z => absurd e z) id, h9, fun y hy e => (h10 y hy).elim (fun z => absurd e z) id⟩
abbrev envK (F : NF) (f L : Addr) : Env := PySem.W.envX F.qual F.scope L f (.ref F.c) (cellsFrom (L + 1) F.scope.names F.cl)
def kcx (CX : CXT) (P : Program) (w : World) (K : PySem.W.Frag) (mg : Str → Option Value) (base : Heap) (N : List Str) (F : NF) (f : Addr) (A : Around) (outer : List Env) (s : Shared) (H : Hp) (E : XK) : Cx where
  prog := P
  w := w
  K := K
  mg := mg
  base := base
  A := A.deeper (envK F f s.heap.objs.size)
  N := N
  s_0 := s
  H_0 := H
  env := envK F f s.heap.objs.size
  outer := outer
  stack := envK F f s.heap.objs.size :: outer
  ex := []
  calm := true
  fn := fun _ => false
  pn := []
  xe := fun e s' => wpAny (model P w) (A.deeper (envK F f s.heap.objs.size)) (leaving (envK F f s.heap.objs.size) e) (fun _ s'' => CX outer H s E e s'') (fun e' s'' => CX outer H s E e' s'') s'
section
variable {CX : CXT} {P : Program} {w : World} {K : PySem.W.Frag} {mg : Str → Option Value} {base : Heap} {N ps fr : List Str} {F : NF} {f : Addr} {A : Around} {outer : List Env} {s s1 : Shared} {H : Hp} {E : XK} {us : List Value} {vs : List V} {ws : List (Option V)}
theorem inv_startK (S : KScope N ps fr F.scope) (hd : A.handled = none) (e0 : Env0 P w K mg base A outer s H) (hl : vs.length = ps.length) (r : Vals vs us) (C : CellsAt F.cl fr ws s.heap H)
    (x : InCallC s s.heap.objs.size (bindL (envK F f s.heap.objs.size).kindOf (ps.zip us) fun _ => none) (cellsFrom (s.heap.objs.size + 1) F.scope.names []) (bindC (envK F f s.heap.objs.size).kindOf (ps.zip us) fun _ => none) s1) :
    Inv (kcx CX P w K mg base N F f A outer s H E) [] (startF N vs ws) H s1 := by
  have hpl : ps.length + fr.length ≤ N.length := by
    have q := congrArg List.length S.pre
    rw [List.length_take, List.length_append] at q
    omega
  obtain ⟨h1, tk, rfl, kp⟩ := x.done
  have noA : ∀ b : Addr, b ∉ (kcx CX P w K mg base N F f A outer s H E).ex := fun b z => absurd (show b ∈ ([] : List Addr) from z) (by simp)
  have cellK : ∀ {c : Addr} {v : Option Value}, s.heap.IsCell c v → h1.IsCell c v := fun {c v} ⟨o, ho, hd⟩ => ⟨o, kp _ _ ho, hd⟩
  have eC : cellsFrom (s.heap.objs.size + 1) F.scope.names F.cl = cellsFrom (s.heap.objs.size + 1) F.scope.names [] ++ F.cl := by
    have := cellsFrom_app F.scope.names (s.heap.objs.size + 1) [] F.cl
    rw [List.nil_append] at this
    exact this
  have split : ∀ {y c}, (cellsFrom (s.heap.objs.size + 1) F.scope.names F.cl).lookup y = some c → (cellsFrom (s.heap.objs.size + 1) F.scope.names []).lookup y = some c ∨ ((cellsFrom (s.heap.objs.size + 1) F.scope.names []).lookup y = none ∧ F.cl.lookup y = some c) := fun {y c} e => by
    rw [eC, List.lookup_append] at e
    cases q : (cellsFrom (s.heap.objs.size + 1) F.scope.names []).lookup y with
    | none =>
      rw [q] at e
      exact .inr ⟨rfl, e⟩
    | some c' =>
      rw [q] at e
      exact .inl e
  have own_up : ∀ {y c}, (cellsFrom (s.heap.objs.size + 1) F.scope.names []).lookup y = some c → s.heap.objs.size < c := fun {y c} e => x.above y c (PySem.mem_of_lookup e)
  have cl_lo : ∀ {y c}, F.cl.lookup y = some c → c < s.heap.objs.size := fun {y c} e => by
    obtain ⟨_, v, z⟩ := C.all y c e
    exact z.lt
  have free_no : ∀ {y}, F.scope.names.lookup y = some .free → (cellsFrom (s.heap.objs.size + 1) F.scope.names []).lookup y = none := fun {y} e => by
    cases q : (cellsFrom (s.heap.objs.size + 1) F.scope.names []).lookup y with
    | none => rfl
    | some c =>
      exfalso
      have hm := PySem.mem_of_lookup q
      rcases cellsFrom_key F.scope.names _ [] hm with h | h
      · exact S.one (y, .cell) h rfl (S.free (y, .free) (PySem.mem_of_lookup e) rfl)
      · cases h
  refine ⟨⟨e0.mod, S.kind, rfl, rfl, Nat.le_refl _, fun y z c e1 e2 => ?_, fun y hy => ?_, fun y c z _ => ?_, fun _ => hd, Around.frames_deeper e0.frames, .inr ⟨rfl, rfl⟩, fun b z => absurd z (noA b), e0.bs, e0.bsz, fun b _ _ => noA b,
      fun b z => absurd z (noA b), e0.funs, e0.frf⟩,
    rfl, e0.bare, Un.kept kp, ⟨_, x.toInCall.ns, fun i y v e1 e2 e3 => ?_⟩, fun y c e => ?_, e0.hok.fresh (Nat.le_refl _), fun y c e => ?_, fun q hq => absurd (show q ∈ ([] : List (Addr × Obj)) ++ [] from hq) (by simp), e0.hok.kept kp, ?_⟩
  · rcases split e1 with e1 | ⟨_, e1⟩ <;> rcases split e2 with e2 | ⟨_, e2⟩
    · exact name_of_addr x.apart (PySem.mem_of_lookup e1) (PySem.mem_of_lookup e2)
    · exact absurd (own_up e1) (Nat.not_lt.mpr (Nat.le_of_lt (cl_lo e2)))
    · exact absurd (own_up e2) (Nat.not_lt.mpr (Nat.le_of_lt (cl_lo e1)))
    · exact C.inj y z c e1 e2
  · have hy : F.scope.names.lookup y = some .cell ∨ F.scope.names.lookup y = some .free := hy
    show ∃ c, (cellsFrom (s.heap.objs.size + 1) F.scope.names F.cl).lookup y = some c
    rw [eC]
    rcases hy with hy | hy
    · obtain ⟨c, hc⟩ := cell_has (n := s.heap.objs.size + 1) hy
      exact ⟨c, by rw [List.lookup_append, hc]; rfl⟩
    · obtain ⟨i, hi⟩ := List.mem_iff_getElem?.mp (S.free _ (PySem.mem_of_lookup hy) rfl)
      obtain ⟨c, hc, _⟩ := C.has i y hi
      exact ⟨c, by rw [List.lookup_append, free_no hy, hc]; rfl⟩
  · have z : false = true := z
    cases z
  · have e1 : N[i]? = some y := e1
    have clen := C.len
    unfold startF at e2
    by_cases h1 : i < ps.length
    · have hq : (ps ++ fr)[i]? = some y := by
        rw [← S.pre, List.getElem?_take_of_lt (by omega)]
        exact e1
      rw [List.getElem?_append_left h1] at hq
      rw [List.getElem?_append_left (by rw [List.length_map]; omega), List.getElem?_map] at e2
      have ha : vs[i]? = some v := by
        cases e : vs[i]? with
        | none => rw [e] at e2; cases e2
        | some a => rw [e] at e2; cases e2; rfl
      obtain ⟨u, hu, rv⟩ := r.get ha
      have ndP : ps.Nodup := by
        have q := S.nd.sublist (List.take_sublist (ps.length + fr.length) N)
        rw [S.pre] at q
        exact (List.nodup_append.mp q).1
      refine ⟨u, rv, ?_⟩
      rcases S.par y (List.mem_of_getElem? hq) with k | k
      · exact .inl ⟨k, bindL_get ndP hq hu k⟩
      · obtain ⟨c, e⟩ := cell_has (n := s.heap.objs.size + 1) k
        refine .inr ⟨.inl k, c, ?_, ?_⟩
        · show (cellsFrom (s.heap.objs.size + 1) F.scope.names F.cl).lookup y = some c
          rw [eC, List.lookup_append, e]
          rfl
        · have q := x.cell y c e
          rw [bindC_get ndP hq hu (by show F.scope.names.lookup y ≠ _; rw [k]; decide)] at q
          exact q
    · rw [List.getElem?_append_right (by rw [List.length_map]; omega), List.length_map] at e2
      by_cases h2 : i < ps.length + fr.length
      · have hq : (ps ++ fr)[i]? = some y := by
          rw [← S.pre, List.getElem?_take_of_lt (by omega)]
          exact e1
        rw [List.getElem?_append_right (by omega)] at hq
        rw [List.getElem?_append_left (by omega), hl] at e2
        obtain ⟨c, hc, hv⟩ := C.has (i - ps.length) y hq
        obtain ⟨u, ru, hu⟩ := hv v e2
        have hfk := S.frk y (List.mem_of_getElem? hq)
        refine ⟨u, ru, .inr ⟨.inr hfk, c, ?_, cellK hu⟩⟩
        show (cellsFrom (s.heap.objs.size + 1) F.scope.names F.cl).lookup y = some c
        rw [eC, List.lookup_append, free_no hfk, hc]
        rfl
      · rw [List.getElem?_append_right (by omega), List.getElem?_replicate] at e2
        split at e2 <;> cases e2
  · rcases split e with e | ⟨_, e⟩
    · exact ⟨_, x.cell y c e⟩
    · obtain ⟨v, z⟩ := (C.all y c e).2
      exact ⟨v, cellK z⟩
  · rcases split e with e | ⟨_, e⟩
    · exact e0.hok.fresh (Nat.le_of_lt (own_up e))
    · exact (C.all y c e).1
  · have clen := C.len
    unfold startF
    show _ = N.length
    rw [List.length_append, List.length_append, List.length_map, List.length_replicate]
    omega
/-- THE RULE: a nested def by its body, cells of its own allowed -/
theorem codeK {k : Nat} {Q : VK} (S : KScope N ps fr F.scope) (hb : ∀ (doc pm ctv : Value) (us : List Value), us.length = ps.length → bindArgs (F.fd doc pm ctv) ⟨us, []⟩ = pure (ps.zip us)) (hr : Room (k + 1) A) (e0 : Env0 P w K mg base A outer s H) (hf : H f = some (FnO f F)) (hc : H F.c = some (CodeO F.c F.qual))
    (C : CellsAt F.cl fr ws s.heap H) (r : Vals vs us) (hl : vs.length = ps.length)
    (hbody : Room k (A.deeper (envK F f s.heap.objs.size)) → ∃ t, PSs (kcx CX P w K mg base N F f A outer s H E) F.body t ∧ t { nx := fun _ H' => Q .non H', rt := Q } (startF N vs ws) H) :
    codeAny (model P w) A (.call (.ref f) ⟨us, []⟩) (CR CX outer P w H s Q E) s := by
  have lim : s.heap.NoLimit := e0.mod.nolimit.keeps fun b o e => (e0.bs b o e).1
  obtain ⟨od, sl, doc, pm, ctv, ho⟩ := fnO_at e0.hok hf
  refine codeAny_call_function hr.depth ho rfl S.co S.gen rfl (codeO_at e0.hok hc) ?_
  rw [hb doc pm ctv us (by rw [← r.length]; exact hl)]
  refine wpAny_pure (newEnvK S.kind (fun ⟨n, _⟩ hy => S.par n (List.of_mem_zip hy).1) fun env he s1 x => ?_)
  subst he
  refine ⟨lim.keeps x.toInCall.keep, codeAny_func ?_⟩
  obtain ⟨t, ht, hq⟩ := hbody (hr.deeper _)
  have I : Inv (kcx CX P w K mg base N F f A outer s H E) [] (startF N vs ws) H s1 := inv_startK S hr.hd e0 hl r C x
  refine wpAny_mono (ht.run [] s1 (startF N vs ws) H _ I hq) (fun fl s' hs => ?_) fun e s' hs => hs
  have fin : ∀ {σ' : L2.St} {H' : Hp} {v : V} {u : Value}, Inv (kcx CX P w K mg base N F f A outer s H E) [] σ' H' s' → L2.RelV v u → Q v H' → CE outer P w H s Q u s' :=
    fun {σ' H' v u} J rv q => ⟨v, H', J.os, J.bare, J.base, J.hok, rv, q⟩
  cases fl with
  | ret u =>
    obtain ⟨v, σ', H', J, rv, q⟩ := hs
    exact fin J rv q
  | next =>
    obtain ⟨σ', H', J, q⟩ := hs
    exact fin (v := V.non) (u := Value.none) J rfl q
  | brk =>
    obtain ⟨_, _, _, q⟩ := hs
    exact False.elim q
  | cont =>
    obtain ⟨_, _, _, q⟩ := hs
    exact False.elim q
/-- a lambda by its body -/
theorem codeL {k : Nat} {Q : VK} {c' : Addr} {cl : List (Str × Addr)} {qual : Str} {params : Arguments} {body : Expr} {scope : Scope} {pm ctv : Value} {oL : Obj} (S : KScope N ps fr scope)
    (hb : bindArgs (PySem.W.kla_fn "<lambda>" qual params body scope cl pm (.ref c') ctv) ⟨us, []⟩ = pure (ps.zip us)) (hr : Room (k + 1) A) (e0 : Env0 P w K mg base A outer s H)
    (ho : s.heap.get? f = some oL) (hoL : oL.data = .func (PySem.W.kla_fn "<lambda>" qual params body scope cl pm (.ref c') ctv)) (hc : H c' = some (CodeO c' qual))
    (C : CellsAt cl fr ws s.heap H) (r : Vals vs us) (hl : vs.length = ps.length)
    (hbody : Room k (A.deeper (envK ⟨"<lambda>", qual, params, [], scope, cl, c'⟩ f s.heap.objs.size)) → ∃ t, PE (kcx CX P w K mg base N ⟨"<lambda>", qual, params, [], scope, cl, c'⟩ f A outer s H E) body t ∧ t (startF N vs ws) H Q) :
    codeAny (model P w) A (.call (.ref f) ⟨us, []⟩) (CR CX outer P w H s Q E) s := by
  have lim : s.heap.NoLimit := e0.mod.nolimit.keeps fun b o e => (e0.bs b o e).1
  refine PySem.W.kla_callFunE hr.depth ho hoL S.co S.gen rfl (codeO_at e0.hok hc) ?_
  rw [hb]
  refine wpAny_pure (newEnvK S.kind (fun ⟨n, _⟩ hy => S.par n (List.of_mem_zip hy).1) fun env he s1 x => ?_)
  subst he
  refine ⟨lim.keeps x.toInCall.keep, ?_⟩
  obtain ⟨t, ht, hq⟩ := hbody (hr.deeper _)
  have I : Inv (kcx CX P w K mg base N ⟨"<lambda>", qual, params, [], scope, cl, c'⟩ f A outer s H E) [] (startF N vs ws) H s1 := inv_startK (F := ⟨"<lambda>", qual, params, [], scope, cl, c'⟩) S hr.hd e0 hl r C x
  refine PySem.W.kla_codeExpr (wpAny_mono (ht.run [] s1 (startF N vs ws) H Q I hq) (fun v s' hs => ?_) fun e s' hs => hs)
  obtain ⟨w', H', J', rv, q⟩ := hs
  exact ⟨w', H', J'.os, J'.bare, J'.base, J'.hok, rv, q⟩
end
end K20
end
section
set_option linter.all false
set_option maxRecDepth 100000
set_option maxHeartbeats 2000000
set_option autoImplicit false
namespace K20
open PySem PySem.Spec PyProof.Rows L2 LamX NdefX PySem.W
def rIxA (K : PySem.W.Frag) : R2 := fun x y H Q => rIxL K x y H Q ∨ rIxT K x y H Q
/-- a list or a tuple of them -/
def dSeq (b : Bool) (ds : List PyData) : PyData := if b = true then .list ds else .tuple ds
theorem ev_ixA {m : Md} {K : PySem.W.Frag} {σ : L2.St} {H : Hp} {ta tb : TE} {b : Bool} {ds : List PyData} {i : Int} {a : PyData} (ha : EvD m K ta σ H (.d (dSeq b ds))) (hb : EvD m K tb σ H (.d (.int i))) (e : atI ds i = some a) : EvD m K (tOp (rIxA K) ta tb) σ H (.d a) := by
  cases b with
  | true =>
    have h := ev_ixL (ev_dlr ha) hb e
    exact fun H1 e1 Q q => ha H1 e1 _ fun x H2 e2 i2 => hb H2 (R.trans e1 e2) _ fun y H3 e3 i3 => by
      obtain ⟨p, xs, rfl, g1, g2⟩ := dp_lst ((show Is m K H2 x (.d (.list ds)) from i2).mono e3)
      obtain ⟨v, g3, g4⟩ := atI_dp g2 e
      rw [show y = .int i from dp_int (i3 : Dp K (m.vw H3) y (.int i))]
      exact .inl ⟨p, xs, i, v, rfl, rfl, sqL_mono vw_same g1, g3, q v H3 (R.trans e2 e3) g4⟩
  | false =>
    exact fun H1 e1 Q q => ha H1 e1 _ fun x H2 e2 i2 => hb H2 (R.trans e1 e2) _ fun y H3 e3 i3 => by
      obtain ⟨p, xs, rfl, g1, g2⟩ := dp_tup ((show Is m K H2 x (.d (.tuple ds)) from i2).mono e3)
      obtain ⟨v, g3, g4⟩ := atI_dp g2 e
      rw [show y = .int i from dp_int (i3 : Dp K (m.vw H3) y (.int i))]
      exact .inr ⟨p, xs, i, v, rfl, rfl, sqT_mono vw_same g1, g3, q v H3 (R.trans e2 e3) g4⟩
theorem row_at {ts : List (List Int)} {r : Nat} (h : r < ts.length) : (ts.map dInts)[r]? = some (dInts (ts.getD r [])) := by
  rw [List.getElem?_map, List.getElem?_eq_getElem h, List.getD_eq_getElem?_getD, List.getElem?_eq_getElem h]
  rfl
theorem row_ne {n : Nat} {ts : List (List Int)} (h : RowsOk n ts) {r : Nat} (hr : r < n) : ts.getD r [] ≠ [] := by
  have : r < ts.length := Nat.lt_of_lt_of_le hr h.1
  rw [List.getD_eq_getElem?_getD, List.getElem?_eq_getElem this]
  exact h.2 _ (List.getElem_mem this)
theorem turn_at {ts : List (List Int)} {r : Nat} {tags : List Int} (hne : ts.getD r [] ≠ []) : ((ts.getD r []).map PyData.int)[tags.length % (ts.getD r []).length]? = some (turnM ts r tags) := by
  have hp : 0 < (ts.getD r []).length := List.length_pos_iff.mpr hne
  have hm := Nat.mod_lt tags.length hp
  unfold turnM
  generalize ts.getD r [] = l at *
  rw [List.getElem?_map, List.getElem?_eq_getElem hm, List.getD_eq_getElem?_getD, List.getElem?_eq_getElem hm]
  rfl
section
variable {P : Program} {w : World} {K : PySem.W.Frag} {mg : Str → Option Value} {base : Heap}
/-! ### _law_next -/
abbrev Late := Option (Nat × Nat × PyData)
abbrev spLawNext (K : PySem.W.Frag) : Sp := SpF K (fun a : (Bool × List (List Int) × Late) × Nat × List Int => [.d (dSeq a.1.1 (a.1.2.1.map dInts)), .d (dLate a.1.2.2), .d (.int (a.2.1 : Int)), .d (dInts a.2.2)]) (fun a => a.2.1 < a.1.2.1.length ∧ a.1.2.1.getD a.2.1 [] ≠ []) (fun a => .d (nextM a.1.2.1 a.1.2.2 a.2.1 a.2.2))
theorem sc_law_next : FnScope ["_law_turns_here", "_law_late_here", "_law_room", "_law_tags"] ["_law_turns_here", "_law_late_here", "_law_room", "_law_tags"] (defScope s_law_next) := ⟨rfl, rfl, rfl, by decide +kernel, rfl, by decide +kernel, by decide +kernel⟩
theorem ok_law_next (T : Top K mg) : Cal P w K mg base 1 "_law_next" ["_law_turns_here", "_law_late_here", "_law_room", "_law_tags"] (spLawNext K) := by
  have G := T.G
  refine T.d_law_next.cal sc_law_next (fun _ _ _ _ _ _ us hl => match us, hl with | [_, _, _, _], _ => rfl) (fun _ => rfl) (fun f cdv A outer s H0 E hr => ?_)
  refine ⟨_, (pss_cons (ps_if (PW.pt (pw_and (pt_cmpR op_notN (pv 1) pe_non (nomark _)) (pw_and (pt_cmpR op_eq (pe_ix ix_tup (pv 1) pe_int (fun _ _ => rfl)) (pv 2) (nomark _)) (pw_and1 (pt_cmpR op_eq (pe_ix ix_tup (pv 1) pe_int (fun _ _ => rfl)) (pe_callB call_len_seq (by rfl) G.len_ (by decide +kernel) (pa_cons (pv 3) pa_nil)) (nomark _)))))) (pss_one (ps_ret (pe_ix ix_tup (pv 1) pe_int (fun _ _ => rfl)))) pss_nil)
    (pss_one (ps_ret (pe_ix ix_tup (pe_ix (ix_list.or ix_tup) (pv 0) (pv 2) (fun _ _ => rfl)) (pe_op op_mod (pe_callTy call_int1 (by rfl) G.int_ (by decide +kernel) (pa_cons (pe_callB call_len_seq (by rfl) G.len_ (by decide +kernel) (pa_cons (pv 3) pa_nil)) pa_nil)) (pe_callB call_len_seq (by rfl) G.len_ (by decide +kernel) (pa_cons (pe_ix (ix_list.or ix_tup) (pv 0) (pv 2) (fun _ _ => rfl)) pa_nil))) (fun _ _ => rfl))))), ?_⟩
  intro m ⟨⟨b, ts, late⟩, r, tags⟩ H vs Q k i ⟨hr, hne⟩ q
  obtain ⟨v, v2, v3, v4, rfl, i1, i2, i3, i4⟩ := isAll4 i
  simp only at hr hne
  have turn : ∀ H1, m.R H H1 → nextM ts late r tags = turnM ts r tags → tRet (tOp (rIxT K) (tOp (rIxA K) (tVar 0) (tVar 2)) (tOp (rI (fun _ j => 0 < j) fun i j => .int (i % j)) (tCB rIntI (tCons (tCB (rLenS K) (tCons (tVar 3) tNil)) tNil)) (tCB (rLenS K) (tCons (tOp (rIxA K) (tVar 0) (tVar 2)) tNil)))) { nx := fun _ H' => Q .non H', rt := Q } (start ["_law_turns_here", "_law_late_here", "_law_room", "_law_tags"] [v, v2, v3, v4]) H1 := fun H1 e1 he => by
    have hrow : EvD m K (tOp (rIxA K) (tVar 0) (tVar 2)) (start ["_law_turns_here", "_law_late_here", "_law_room", "_law_tags"] [v, v2, v3, v4]) H1 (.d (dInts (ts.getD r []))) := ev_ixA (ev_var rfl (i1.mono e1)) (ev_var rfl (i3.mono e1)) (atI_nat (row_at hr))
    have hp : 0 < (ts.getD r []).length := List.length_pos_iff.mpr hne
    refine s_ret e1.ok (ev_ixT hrow (ev_iC (ev_intI (ev_lenT (ds := tags.map .int) (ev_var rfl (i4.mono e1)))) (ev_lenT hrow) ?_) (a := turnM ts r tags) ?_) fun v H2 e2 i2 => q _ v H2 (R.trans e1 e2) rfl (by rw [← he] at i2; exact i2)
    · rw [List.length_map]; omega
    · rw [List.length_map, List.length_map]
      exact atI_nat (turn_at hne)
  cases late with
  | none =>
    exact q_when (b := false) k ((et_and (b := false) (et_test (ev_notN (a := .none) (ev_var rfl i2))) fun z => absurd z (by decide)).is rfl) (fun z => absurd z Bool.false_ne_true) fun _ H1 e1 => turn H1 e1 rfl
  | some l =>
    obtain ⟨lr, lg, o⟩ := l
    have j2 : Is m K H v2 (.d (.tuple [.int (lr : Int), .int (lg : Int), o])) := i2
    refine q_when (b := decide (lr = r ∧ lg = tags.length)) k ((et_and (et_test (ev_notN (ev_var rfl j2))) fun _ => et_and (et_test (ev_eqI (ev_ixT (ev_var rfl j2) ev_int rfl) (ev_var rfl i3))) fun _ => et_test (ev_eqI (ev_ixT (ev_var rfl j2) ev_int rfl) (ev_lenT (ds := tags.map .int) (ev_var rfl i4)))).is ?_) (fun z H1 e1 => ?_) fun z H1 e1 => turn H1 e1 ?_
    · rw [List.length_map]
      show (true && (decide ((lr : Int) = (r : Int)) && decide ((lg : Int) = (tags.length : Int)))) = _
      rw [Bool.true_and, Bool.decide_and]
      congr 1
      · exact decide_eq_decide.mpr (by omega)
      · exact decide_eq_decide.mpr (by omega)
    · refine s_ret e1.ok (ev_ixT (ev_var rfl (j2.mono e1)) ev_int rfl) fun v H2 e2 i2 => q _ v H2 (R.trans e1 e2) rfl (i2.e ?_)
      show o = (if lr = r ∧ lg = tags.length then o else _)
      rw [if_pos (of_decide_eq_true z)]
    · show (if lr = r ∧ lg = tags.length then o else turnM ts r tags) = _
      rw [if_neg (of_decide_eq_false z)]
end
/-! ### the call of an unseeing keeper -/
section
variable {X : Cx} {pins : List (Addr × Obj)} {σ : L2.St} {H : Hp} {s : Shared} {f : Addr} {m : Md} {cs : List Addr}
theorem call_hidden {us : List Value} {Q : VK} {d : PyData} (I : Inv X pins σ H s) (k : m.ok H) (hcs : CellsSeen m cs H)
    (hc : Env0 X.prog X.w X.K X.mg X.base X.A X.stack s (del cs H) → codeAny (model X.prog X.w) X.A (.call (.ref f) ⟨us, []⟩) (CR L2.CX0 X.stack X.prog X.w (del cs H) s (fun v H' => m.R (del cs H) H' ∧ Is m X.K H' v (.d d)) L2.E0) s)
    (q : ∀ v H', m.R H H' → Is m X.K H' v (.d d) → Q v H') : wpAny (model X.prog X.w) X.A (call (.ref f) us) (EP X pins σ Q) X.xe s := by
  refine wpAny_call (codeAny_mono (hc (env0_del I.env0 hcs.in_)) fun r s' hq => ?_)
  cases r with
  | error e => exact False.elim hq
  | ok fl =>
    cases fl with
    | ret u => exact I.after (ce_rest I.hok I.env0.frf hcs.in_ hq fun v H' hn z => q v _ (r_rest k hcs z.1 hn) (is_rest_d hn z.2))
    | next => exact False.elim hq
    | brk => exact False.elim hq
    | cont => exact False.elim hq
theorem cells1 {x : Str} {c1 : Addr} {tv : V} (hok : HOk X.prog X.w H s.heap) (hc : H c1 = some (CellO c1 tv)) : CellsAt [(x, c1)] [x] [some tv] s.heap (del [c1] H) := by
  obtain ⟨⟨u, ru, hcell⟩, _, _⟩ := hok c1 _ hc
  have look : ∀ y c, ([(x, c1)] : List (Str × Addr)).lookup y = some c → y = x ∧ c = c1 := fun y c e => by
    have := PySem.mem_of_lookup e
    rw [List.mem_singleton] at this
    exact ⟨congrArg Prod.fst this, congrArg Prod.snd this⟩
  refine ⟨rfl, fun y c e => ?_, fun y z c e1 e2 => ?_, fun i y e => ?_⟩
  · obtain ⟨rfl, rfl⟩ := look y c e
    exact ⟨del_free (List.mem_singleton.mpr rfl), _, hcell⟩
  · rw [(look y c e1).1, (look z c e2).1]
  · cases i with
    | zero =>
      have e' : x = y := Option.some.inj e
      subst e'
      refine ⟨c1, by rw [List.lookup_cons, beq_self_eq_true], fun v ev => ?_⟩
      have ev' : tv = v := Option.some.inj (Option.some.inj ev)
      subst ev'
      exact ⟨u, ru, hcell⟩
    | succ i => cases e
theorem cells2 {x y : Str} {c1 c2 : Addr} {tv lv : V} (hxy : x ≠ y) (hne : c1 ≠ c2) (hok : HOk X.prog X.w H s.heap) (h1 : H c1 = some (CellO c1 tv)) (h2 : H c2 = some (CellO c2 lv)) : CellsAt [(x, c1), (y, c2)] [x, y] [some tv, some lv] s.heap (del [c1, c2] H) := by
  obtain ⟨⟨u1, ru1, hcell1⟩, _, _⟩ := hok c1 _ h1
  obtain ⟨⟨u2, ru2, hcell2⟩, _, _⟩ := hok c2 _ h2
  have look : ∀ z c, ([(x, c1), (y, c2)] : List (Str × Addr)).lookup z = some c → (z = y ∧ c = c2) ∨ (z = x ∧ c = c1) := fun z c e => by
    have := PySem.mem_of_lookup e
    rcases List.mem_cons.mp this with e | e
    · exact .inr ⟨congrArg Prod.fst e, congrArg Prod.snd e⟩
    · rw [List.mem_singleton] at e
      exact .inl ⟨congrArg Prod.fst e, congrArg Prod.snd e⟩
  refine ⟨rfl, fun z c e => ?_, fun z z' c e1 e2 => ?_, fun i z e => ?_⟩
  · rcases look z c e with ⟨rfl, rfl⟩ | ⟨rfl, rfl⟩
    · exact ⟨del_free (by simp), _, hcell2⟩
    · exact ⟨del_free (by simp), _, hcell1⟩
  · rcases look z c e1 with ⟨rfl, rfl⟩ | ⟨rfl, rfl⟩ <;> rcases look z' _ e2 with ⟨rfl, e⟩ | ⟨rfl, e⟩
    · rfl
    · exact absurd e.symm hne
    · exact absurd e hne
    · rfl
  · match i, e with
    | 0, e =>
      have e' : x = z := Option.some.inj e
      subst e'
      refine ⟨c1, by rw [List.lookup_cons, beq_self_eq_true], fun v ev => ?_⟩
      have ev' : tv = v := Option.some.inj (Option.some.inj ev)
      subst ev'
      exact ⟨u1, ru1, hcell1⟩
    | 1, e =>
      have e' : y = z := Option.some.inj e
      subst e'
      refine ⟨c2, by rw [List.lookup_cons, show (y == x) = false from beq_eq_false_iff_ne.mpr (Ne.symm hxy), List.lookup_cons, beq_self_eq_true], fun v ev => ?_⟩
      have ev' : lv = v := Option.some.inj (Option.some.inj ev)
      subst ev'
      exact ⟨u2, ru2, hcell2⟩
    | i + 2, e => cases e
end
def rUns (K : PySem.W.Frag) : V → List V → Hp → VK → Prop := fun f vs H Q => ∃ (m : Md) (n : Nat) (nx : Nat → List Int → PyData) (r : Nat) (tags : List Int) (v1 v2 v3 v4 : V), vs = [v1, v2, v3, v4] ∧ m.ok H ∧ Is m K H f (.uns n nx) ∧ r < n ∧ Is m K H v3 (.d (.int (r : Int))) ∧ Is m K H v4 (.d (dInts tags)) ∧ ∀ v H', m.R H H' → Is m K H' v (.d (nx r tags)) → Q v H'
theorem sc_in_turn_unseeing : KScope ["web", "k", "room", "tags", "dyes"] ["web", "k", "room", "tags"] ["dyes"] (C8.fnScope sUns) := kscope_by (by decide +kernel)
theorem sc_lam : KScope ["_law_web", "_law_k", "_law_room", "_law_tags", "_law_turns_here", "_law_late_here"] ["_law_web", "_law_k", "_law_room", "_law_tags"] ["_law_turns_here", "_law_late_here"] lamScope := kscope_by (by decide +kernel)
theorem cr_uns {X : Cx} {A : Around} (T : Top X.K X.mg) (hr : Room 3 A) (hA : X.A = A) : CrV X (rUns X.K) := by
  subst hA
  intro pins s σ H f vs us Q I rv h
  obtain ⟨m, n, nx, r, tags, v1, v2, v3, v4, rfl, k, iu, hrn, i3, i4, q⟩ := h
  have G := T.G
  rcases iu with ⟨f', c', c1, c2, tv, lv, ts, late, ef, h1, h2, h3, h4, h5, h6, h7, h8, h9, h10, rfl⟩ | ⟨f', c', c1, tv, ts, ef, h1, h2, h3, h4, h5, h6, h7, rfl⟩
  · cases ef
    have hcs : CellsSeen m [c1, c2] H := fun c hc => by
      rcases List.mem_cons.mp hc with e | e
      · rw [e]; exact ⟨_, h6⟩
      · rw [List.mem_singleton.mp e]; exact ⟨_, h7⟩
    refine ⟨.inr ⟨_, _, vw_sub h1⟩, call_hidden I k hcs (fun e0 => ?_) q⟩
    have k' := ok_del k hcs
    obtain ⟨⟨od, sl, pm, ctv, ho⟩, _, _⟩ := I.hok f _ (vw_sub h1)
    have hl : us.length = 4 := rv.length.symm
    have j3 := is_del_d hcs i3
    have j4 := is_del_d hcs i4
    have jt : Is m X.K (del [c1, c2] H) tv (.d (dSeq true (ts.map dInts))) := by
      show Dp X.K (m.vw (del [c1, c2] H)) tv _
      rw [vw_del]
      exact h8
    have jl : Is m X.K (del [c1, c2] H) lv (.d (dLate late)) := by
      show Dp X.K (m.vw (del [c1, c2] H)) lv _
      rw [vw_del]
      exact h9
    have hlt : r < ts.length := Nat.lt_of_lt_of_le hrn h10.1
    refine codeL (k := 2) (N := ["_law_web", "_law_k", "_law_room", "_law_tags", "_law_turns_here", "_law_late_here"]) (ps := ["_law_web", "_law_k", "_law_room", "_law_tags"]) (fr := ["_law_turns_here", "_law_late_here"]) (ws := [some tv, some lv]) (cl := lamCl c1 c2) (qual := qLam) (params := lamArgs) (body := lamBody) (scope := lamScope) (pm := pm) (ctv := ctv) sc_lam (match us, hl with | [_, _, _, _], _ => rfl) hr e0 ho rfl (del_of (vw_sub h2) h5) (cells2 (by decide) h3 I.hok (vw_sub h6) (vw_sub h7)) rv rfl fun hr' => ?_
    refine ⟨_, (pe_cal (ok_law_next T) (hr'.mono (by decide)) (by rfl) (pa_cons (pv 4) (pa_cons (pv 5) (pa_cons (pv 2) (pa_cons (pv 3) pa_nil))))), ?_⟩
    exact (ev_call (x := ((true, ts, late), r, tags)) (ea_cons (ev_var rfl jt) (ea_cons (ev_var rfl jl) (ea_cons (ev_var rfl j3) (ea_cons (ev_var rfl j4) ea_nil)))) ⟨hlt, row_ne h10 hrn⟩ : EvD m X.K _ _ (del [c1, c2] H) (.d (nextM ts late r tags))) _ (R.refl k') _ fun v H2 e2 i2 => ⟨e2, i2⟩
  · cases ef
    have hcs : CellsSeen m [c1] H := fun c hc => by
      rw [List.mem_singleton.mp hc]
      exact ⟨_, h5⟩
    refine ⟨.inl ⟨_, vw_sub h1⟩, call_hidden I k hcs (fun e0 => ?_) q⟩
    have k' := ok_del k hcs
    have j3 := is_del_d hcs i3
    have j4 := is_del_d hcs i4
    have jt : Is m X.K (del [c1] H) tv (.d (.tuple (ts.map dInts))) := by
      show Dp X.K (m.vw (del [c1] H)) tv _
      rw [vw_del]
      exact h6
    have hne := row_ne h7 hrn
    have hlt : r < ts.length := Nat.lt_of_lt_of_le hrn h7.1
    refine codeK (F := unsF c1 c') (k := 2) (N := ["web", "k", "room", "tags", "dyes"]) (ps := ["web", "k", "room", "tags"]) (fr := ["dyes"]) (ws := [some tv]) sc_in_turn_unseeing (fun doc pm ctv us hl => match us, hl with | [_, _, _, _], _ => rfl) hr e0 (del_of (vw_sub h1) h3) (del_of (vw_sub h2) h4) (cells1 I.hok (vw_sub h5)) rv rfl fun hr' => ?_
    refine ⟨_, (pss_one (ps_ret (pe_ix ix_tup (pe_ix ix_tup (pv 4) (pv 2) (fun _ _ => rfl)) (pe_op op_mod (pe_callB call_len_seq (by rfl) G.len_ (by decide +kernel) (pa_cons (pv 3) pa_nil)) (pe_callB call_len_seq (by rfl) G.len_ (by decide +kernel) (pa_cons (pe_ix ix_tup (pv 4) (pv 2) (fun _ _ => rfl)) pa_nil))) (fun _ _ => rfl)))), ?_⟩
    have hrow : EvD m X.K (tOp (rIxT X.K) (tVar 4) (tVar 2)) (startF ["web", "k", "room", "tags", "dyes"] [v1, v2, v3, v4] [some tv]) (del [c1] H) (.d (dInts (ts.getD r []))) := ev_ixT (ev_var rfl jt) (ev_var rfl j3) (atI_nat (row_at hlt))
    have hp : 0 < (ts.getD r []).length := List.length_pos_iff.mpr hne
    refine s_ret k' (ev_ixT hrow (ev_iC (ev_lenT (ds := tags.map .int) (ev_var rfl j4)) (ev_lenT hrow) ?_) (a := turnM ts r tags) ?_) fun v H2 e2 i2 => ⟨e2, i2⟩
    · rw [List.length_map]; omega
    · rw [List.length_map, List.length_map]
      exact atI_nat (turn_at hne)
end K20
end
section
set_option linter.all false
set_option maxRecDepth 100000
set_option maxHeartbeats 2000000
set_option autoImplicit false
namespace K20
open PySem PySem.Spec PyProof.Rows L2 LamX NdefX PySem.W
section
variable {m : Md} {K : PySem.W.Frag} {σ : L2.St} {H : Hp} {te : TE} {tA : TA}
theorem uns_here {v : V} {n : Nat} {nx : Nat → List Int → PyData} (h : Is m K H v (.uns n nx)) : ∃ f, v = .ref f ∧ FnHere H f := by
  rcases h with ⟨f', c', c1, c2, tv, lv, ts, late, ef, h1, _⟩ | ⟨f', c', c1, tv, ts, ef, h1, _⟩
  · exact ⟨f', ef, .inr ⟨_, _, vw_sub h1⟩⟩
  · exact ⟨f', ef, .inl ⟨_, vw_sub h1⟩⟩
theorem ev_callU {n : Nat} {nx : Nat → List Int → PyData} {r : Nat} {tags : List Int} {a1 a2 : Dx} (h : EvD m K te σ H (.uns n nx)) (hr : r < n) (ha : EvA m K tA σ H [a1, a2, .d (.int (r : Int)), .d (dInts tags)]) : EvD m K (tCallV (rUns K) te tA) σ H (.d (nx r tags)) := fun H1 e Q q => h H1 e _ fun v H2 e2 i2 => by
  refine ⟨uns_here i2, ha H2 (R.trans e e2) _ fun vs H3 e3 i3 => ?_⟩
  obtain ⟨v1, v2, v3, v4, rfl, j1, j2, j3, j4⟩ := isAll4 i3
  exact ⟨m, n, nx, r, tags, v1, v2, v3, v4, rfl, e3.ok, i2.mono e3, hr, j3, j4, fun v H4 e4 i4 => q v H4 (R.trans (R.trans e2 e3) e4) i4⟩
end
def tagsOf (deeds : List Deed) (r : Nat) : List Int := deeds.filterMap fun d => match d with
  | .give r' t => if r' = r then some t else none
  | .back _ => none
def isGive (r : Nat) : PyData → Bool
  | .tuple [.str _, .int a, .int _] => decide (a = (r : Int))
  | _ => false
def tagD : PyData → PyData
  | .tuple [.str _, .int _, .int t] => .int t
  | d => d
theorem tags_map (r : Nat) : ∀ deeds : List Deed, (((deeds.map dDeed).filter (isGive r)).map tagD) = (tagsOf deeds r).map PyData.int
  | [] => rfl
  | d :: ds => by
    have ih := tags_map r ds
    unfold tagsOf at ih ⊢
    rw [List.map_cons, List.filter_cons, List.filterMap_cons]
    cases d with
    | give r' t =>
      show List.map tagD (if decide ((r' : Int) = (r : Int)) = true then _ else _) = _
      by_cases h : r' = r
      · rw [if_pos (by rw [decide_eq_true_eq]; omega), List.map_cons, ih]
        simp only [if_pos h]
        rfl
      · rw [if_neg (by rw [decide_eq_true_eq]; omega), ih]
        simp only [if_neg h]
    | back r' =>
      show List.map tagD (if false = true then _ else _) = _
      rw [if_neg Bool.false_ne_true, ih]
def rKpr (K : PySem.W.Frag) : V → List V → Hp → VK → Prop := fun f vs H Q => ∃ (m : Md) (n : Nat) (nx : Nat → List Int → PyData) (r : Nat) (deeds : List Deed) (v1 v2 v3 v4 : V), vs = [v1, v2, v3, v4] ∧ m.ok H ∧ Is m K H f (.kpr n nx) ∧ r < n ∧ (∃ ms ts, Is m K H v1 (.web ms ts)) ∧ (∃ k : Int, Is m K H v2 (.d (.int k))) ∧ Is m K H v3 (.d (dDeeds deeds)) ∧ Is m K H v4 (.d (.int (r : Int))) ∧ deeds.length ≤ 10000 ∧ ∀ v H', m.R H H' → Is m K H' v (.d (nx r (tagsOf deeds r))) → Q v H'
theorem sc_blindly_keeper : KScope ["web", "k", "past", "room", "unseeing", "tags", "deed"] ["web", "k", "past", "room"] ["unseeing"] (C8.fnScope sKeeper) := kscope_by (by decide +kernel)
theorem cr_kpr {X : Cx} {A : Around} (T : Top X.K X.mg) (hr : Room 4 A) (hA : X.A = A) : CrV X (rKpr X.K) := by
  subst hA
  intro pins s σ H f vs us Q I rv h
  obtain ⟨m, n, nx, r, deeds, v1, v2, v3, v4, rfl, k, iu, hrn, ⟨ms, ts, i1⟩, ⟨kk, i2⟩, i3, i4, hz, q⟩ := h
  have G := T.G
  obtain ⟨f', c', c1, uv, ef, h1, h2, h3, h4, h5, h6⟩ := iu
  cases ef
  have hcs : CellsSeen m [c1] H := fun c hc => by
    rw [List.mem_singleton.mp hc]
    exact ⟨_, h5⟩
  refine ⟨.inl ⟨_, vw_sub h1⟩, call_hidden I k hcs (fun e0 => ?_) q⟩
  have k' := ok_del k hcs
  have j1 := is_del_web hcs i1
  have j2 := is_del_d hcs i2
  have j3 := is_del_d hcs i3
  have j4 := is_del_d hcs i4
  have ju : Is m X.K (del [c1] H) uv (.uns n nx) := by
    show UnsAt X.K (m.vw (del [c1] H)) uv n nx
    rw [vw_del]
    exact h6
  refine codeK (F := keepF c1 c') (k := 3) (N := ["web", "k", "past", "room", "unseeing", "tags", "deed"]) (ps := ["web", "k", "past", "room"]) (fr := ["unseeing"]) (ws := [some uv]) sc_blindly_keeper (fun doc pm ctv us hl => match us, hl with | [_, _, _, _], _ => rfl) hr e0 (del_of (vw_sub h1) h3) (del_of (vw_sub h2) h4) (cells1 I.hok (vw_sub h5)) rv rfl fun hr => ?_
  refine ⟨_, (pss_cons (ps_setLc (i := 5) (own := [("deed", 6)]) (g := (gName 6)) (tt := (tAnd (tTest (tOp rEq (tOp (rIxT X.K) (tVar 6) (tC (.int 0))) (tC (.str "give")))) (tTest (tOp rEq (tOp (rIxT X.K) (tVar 6) (tC (.int 1))) (tVar 3))))) (te := (tOp (rIxT X.K) (tVar 6) (tC (.int 2)))) rfl sc_blindly_keeper.nd rfl rfl (sw_true rfl rfl rfl (by decide +kernel)) (pi_tup (pv 2)) (blkOk_by (own := [("deed", 6)]) (by kernel_rfl)) (fun _ _ _ _ _ => (pg_name (i := 6) sc_blindly_keeper.nd rfl (Or.inl rfl))) (fun _ _ _ _ _ => (pts_one (PW.pt (pw_and (pt_cmpR op_eq (pe_ix ix_tup (pv 6) pe_int (fun _ _ => rfl)) pe_str (nomark _)) (pw_and1 (pt_cmpR op_eq (pe_ix ix_tup (pv 6) pe_int (fun _ _ => rfl)) (pv 3) (nomark _))))))) (fun _ _ _ _ _ => (pe_ix ix_tup (pv 6) pe_int (fun _ _ => rfl))))
    (pss_one (ps_ret (pe_callV (i := 4) (cr_uns T (hr.mono (by decide)) rfl) rfl (by first | exact Or.inl rfl | exact Or.inr (Or.inl rfl) | exact Or.inr (Or.inr rfl)) (pa_cons (pv 0) (pa_cons (pv 1) (pa_cons (pv 3) (pa_cons (pe_callTy call_tuple_of (by rfl) G.tuple_ (by decide +kernel) (pa_cons (pv 5) pa_nil)) pa_nil)))))))), ?_⟩
  refine q_asg k' (r := .tl ((tagsOf deeds r).map .int)) ((ev_lcT (isGive r) tagD (ev_var (r := .d (dDeeds deeds)) rfl j3) (by rw [List.length_map]; omega) (fun _ => rfl) (fun m' H' d v hd I' hi => ?_) (fun m' H' d v hd I' hi hp => ?_)).is (by rw [tags_map])) fun v5 H1 e1 i5 => ?_
  · obtain ⟨dd, _, rfl⟩ := List.mem_map.mp hd
    cases dd with
    | give r' t =>
      exact (et_and (et_test (ev_eqS (i := word true) (j := "give") (ev_ixT (ds := [.str (word true), .int (r' : Int), .int t]) (ev_var rfl hi) ev_int rfl) ev_str)) fun _ => et_test (ev_eqI (ev_ixT (ds := [.str (word true), .int (r' : Int), .int t]) (ev_var rfl hi) ev_int rfl) (ev_var rfl (I'.is _ _ j4)))).is rfl
    | back r' =>
      exact (et_and (b := false) (et_test (ev_eqS (i := word false) (j := "give") (ev_ixT (ds := [.str (word false), .int (r' : Int)]) (ev_var rfl hi) ev_int rfl) ev_str)) fun z => absurd z (by decide)).is rfl
  · obtain ⟨dd, _, rfl⟩ := List.mem_map.mp hd
    cases dd with
    | give r' t => exact ev_ixT (ds := [.str (word true), .int (r' : Int), .int t]) (ev_var rfl hi) ev_int rfl
    | back r' => cases hp
  · exact s_ret e1.ok (ev_callU (ev_var rfl (ju.mono e1)) hrn (ea_cons (ev_var rfl (j1.mono e1)) (ea_cons (ev_var rfl (j2.mono e1)) (ea_cons (ev_var rfl (j4.mono e1)) (ea_cons (ev_tupL (ev_tlr (ev_var rfl i5))) ea_nil))))) fun v H2 e2 i2 => ⟨R.trans e1 e2, i2⟩
section
variable {m : Md} {K : PySem.W.Frag} {σ : L2.St} {H : Hp} {te : TE} {tA : TA}
theorem kpr_here {v : V} {n : Nat} {nx : Nat → List Int → PyData} (h : Is m K H v (.kpr n nx)) : ∃ f, v = .ref f ∧ FnHere H f := by
  obtain ⟨f', c', c1, uv, ef, h1, _⟩ := h
  exact ⟨f', ef, .inl ⟨_, vw_sub h1⟩⟩
theorem ev_callK {n : Nat} {nx : Nat → List Int → PyData} {r : Nat} {deeds : List Deed} {ms : List Nat} {ts : List (Nat × Nat)} {kk : Int} (h : EvD m K te σ H (.kpr n nx)) (hr : r < n) (hz : deeds.length ≤ 10000) (ha : EvA m K tA σ H [.web ms ts, .d (.int kk), .d (dDeeds deeds), .d (.int (r : Int))]) : EvD m K (tCallV (rKpr K) te tA) σ H (.d (nx r (tagsOf deeds r))) := fun H1 e Q q => h H1 e _ fun v H2 e2 i2 => by
  refine ⟨kpr_here i2, ha H2 (R.trans e e2) _ fun vs H3 e3 i3 => ?_⟩
  obtain ⟨v1, v2, v3, v4, rfl, j1, j2, j3, j4⟩ := isAll4 i3
  exact ⟨m, n, nx, r, deeds, v1, v2, v3, v4, rfl, e3.ok, i2.mono e3, hr, ⟨_, _, j1⟩, ⟨_, j2⟩, j3, j4, hz, fun v H4 e4 i4 => q v H4 (R.trans (R.trans e2 e3) e4) i4⟩
end
end K20
end
section
set_option linter.all false
set_option maxRecDepth 100000
set_option maxHeartbeats 2000000
set_option autoImplicit false
namespace K20
open PySem PySem.Spec PyProof.Rows L2
def rowFor (r n : Nat) : List Ask := (List.replicate (n - 1) [(true, r), (false, r)]).flatten ++ [(true, r)]
def badM (k mem : Nat) (found : List Int) (tag : PyData) : Bool := oddM k tag || match tag with
  | .int t => decide (t ∈ found.drop (found.length - min found.length mem))
  | _ => false
def tagI : PyData → Int
  | .int t => t
  | _ => 0
/-- what stands, and what ends it -/
def tagsR (nx : Nat → List Int → PyData) (k mem r : Nat) : Nat → List Int → List Int × Option PyData
  | 0, found => (found, none)
  | n + 1, found => if badM k mem found (nx r found) = true then (found, some (nx r found)) else tagsR nx k mem r n (found ++ [tagI (nx r found)])
def dTags (p : List Int × Option PyData) : List PyData := p.1.map .int ++ p.2.toList
def conf (a b : Nat) (xs ys : List Int) : Option (List Ask) := (List.range xs.length).findSome? fun i => if xs.getD i 0 ∈ ys then some (rowFor a (i + 1) ++ rowFor b (ys.idxOf (xs.getD i 0) + 1)) else none
def blindM (nx : Nat → List Int → PyData) (ms : List Nat) (ts : List (Nat × Nat)) (k many : Nat) : Option (List Ask) :=
  match (List.range ms.length).findSome? (fun r => if (tagsR nx k (ms.getD r 0) r many []).2.isSome = true then some (rowFor r ((tagsR nx k (ms.getD r 0) r many []).1.length + 1)) else none) with
  | some row => some row
  | none => ts.findSome? fun p => conf p.1 p.2 (tagsR nx k (ms.getD p.1 0) p.1 many []).1 (tagsR nx k (ms.getD p.2 0) p.2 many []).1
end K20
end
section
set_option linter.all false
set_option maxRecDepth 100000
set_option maxHeartbeats 2000000
set_option autoImplicit false
namespace K20
open PySem PySem.Spec PyProof.Rows L2 LamX NdefX PySem.W
/-! ### what makes a closure -/
structure PSR (X : Cx) (ss : List Stmt) (t : (L2.St → Hp → V → Prop) → L2.St → Hp → Prop) : Prop where
  run : ∀ (pins : List (Addr × Obj)) (s : Shared) (σ : L2.St) (H : Hp) (R : L2.St → Hp → V → Prop), Inv X pins σ H s → t R σ H →
    wpAny (model X.prog X.w) X.A (execs ss X.env) (fun fl s' => ∃ v u σ' H', fl = .ret u ∧ Inv X pins σ' H' s' ∧ L2.RelV v u ∧ R σ' H' v) X.xe s
section
variable {X : Cx}
theorem psr_ret {e : Expr} {pos : Pos} {te : TE} (he : PE X e te) : PSR X [.Return (some e) pos] (fun R σ H => te σ H fun v H1 => R σ H1 v) := by
  refine ⟨fun pins s σ H R I h => ?_⟩
  refine wpAny_execs_cons (wpAny_Return_some (thn (he.run pins s σ H (fun v H1 => R σ H1 v) I h) fun u s1 ⟨v, H1, I1, r1, q1⟩ => ⟨v, u, σ, H1, rfl, I1, r1, q1⟩))
theorem psr_cons {st : Stmt} {ss : List Stmt} {t : TS} {u : (L2.St → Hp → V → Prop) → L2.St → Hp → Prop} (h1 : PS X st t) (h2 : PSR X ss u) : PSR X (st :: ss) (fun R σ H => t { nx := u R, rt := fun _ _ => False } σ H) := by
  refine ⟨fun pins s σ H R I h => ?_⟩
  refine wpAny_execs_cons (thn (h1.run pins s σ H { nx := u R, rt := fun _ _ => False } I h) fun f s1 q => ?_)
  cases f with
  | next =>
    obtain ⟨σ', H', I', q⟩ := q
    exact h2.run pins s1 σ' H' R I' q
  | ret v =>
    obtain ⟨_, _, _, _, _, q⟩ := q
    exact False.elim q
  | brk =>
    obtain ⟨_, _, _, q⟩ := q
    exact False.elim q
  | cont =>
    obtain ⟨_, _, _, q⟩ := q
    exact False.elim q
end
/-- the cells of L are known from now on -/
def trk (L : List (Addr × V)) (H : Hp) : Hp := fun b => match L.lookup b with
  | some v => some (CellO b v)
  | none => H b
theorem lookup_mem' {L : List (Addr × V)} {b : Addr} {v : V} (h : L.lookup b = some v) : (b, v) ∈ L := by
  induction L with
  | nil => cases h
  | cons p r ih =>
    rw [List.lookup_cons] at h
    cases hb : b == p.1 with
    | true =>
      rw [hb] at h
      have e : v = p.2 := (Option.some.inj h).symm
      have e2 : b = p.1 := beq_iff_eq.mp hb
      rw [e, e2]
      exact List.mem_cons_self ..
    | false =>
      rw [hb] at h
      exact List.mem_cons_of_mem _ (ih h)
theorem trk_some {L : List (Addr × V)} {H : Hp} {b : Addr} {v : V} (h : L.lookup b = some v) : trk L H b = some (CellO b v) := by
  unfold trk
  rw [h]
theorem trk_none {L : List (Addr × V)} {H : Hp} {b : Addr} (h : L.lookup b = none) : trk L H b = H b := by
  unfold trk
  rw [h]
theorem trk_same {L : List (Addr × V)} {H : Hp} (hL : ∀ p ∈ L, H p.1 = none) : Same H (trk L H) := fun b o e => by
  cases h : L.lookup b with
  | none =>
    rw [trk_none h]
    exact e
  | some v =>
    have := hL _ (lookup_mem' h)
    rw [show H b = none from this] at e
    cases e
theorem ce_trk {P : Program} {w : World} {outer : List Env} {H H' : Hp} {s s' : Shared} {v : V} {u : Value} {Q : VK} {L : List (Addr × V)} (os : s'.os = s.os) (bare : AllBare s'.gens) (un : Un (frs outer) [] H H' s.heap s'.heap) (hok : HOk P w H' s'.heap) (rv : L2.RelV v u)
    (hL : ∀ p ∈ L, H' p.1 = none ∧ s.heap.objs.size ≤ p.1 ∧ ∃ x, L2.RelV p.2 x ∧ s'.heap.IsCell p.1 (some x)) (q : Q v (trk L H')) : CE outer P w H s Q u s' := by
  have sm := trk_same (L := L) (H := H') fun p hp => (hL p hp).1
  refine ⟨v, trk L H', os, bare, ⟨un.keep, un.slot, fun b o g n hx => ?_, un.there, fun b xs e => sm _ _ (un.tups b xs e), fun b o x e => sm _ _ (un.frzs b o x e), fun b ps e => ?_⟩, fun b o e => ?_, rv, q⟩
  · cases h : L.lookup b with
    | none =>
      rw [trk_none h]
      exact un.free b o g n hx
    | some v =>
      have := (hL _ (lookup_mem' h)).2.1
      exact absurd (Heap.lt_size g) (Nat.not_lt.mpr this)
  · obtain ⟨more, e'⟩ := un.tbls b ps e
    exact ⟨more, sm _ _ e'⟩
  · cases h : L.lookup b with
    | none =>
      rw [trk_none h] at e
      exact objOk_cng (fun b' xs e' => sm _ _ e') (fun b' x e' => sm _ _ e') o b (hok b o e)
    | some v =>
      rw [trk_some h] at e
      cases e
      obtain ⟨_, _, x, rx, hc⟩ := hL _ (lookup_mem' h)
      have hc : s'.heap.IsCell b (some x) := hc
      obtain ⟨o, ho, hd⟩ := id hc
      exact ⟨⟨x, rx, hc⟩, ⟨o, ho⟩, fun h1 h2 ⟨y, ry, oy, h3, h4⟩ st => ⟨y, ry, oy, st oy h3, h4⟩⟩
/-- a def whose exit is told by hand -/
theorem fn_ofR {P : Program} {w : World} {K : PySem.W.Frag} {mg : Str → Option Value} {base : Heap} {k : Nat} {f : Addr} {name qual : Str} {params : Arguments} {body : List Stmt} {scope : Scope} {dV kV doc pm cdv ct oc : Value} {an od : Option Addr}
    {osl : Array (Option Value)} {N ps : List Str} {sp : Sp} (lk : K.lookup f = some ⟨oc, od, .func (PySem.W.fnOf name qual params body scope dV kV doc pm an cdv ct), osl⟩) (hcd : PySem.W.codeIn K cdv qual = true) (S : FnScope N ps scope)
    (len : ∀ vs H Q E, sp vs H Q E → vs.length = ps.length)
    (hbody : ∀ (A : Around) (outer : List Env) (s : Shared) (H : Hp) (vs : List V) (Q : VK) (E : XK), Room k (A.deeper (envOfC qual scope s.heap.objs.size f cdv)) → sp vs H Q E →
      ∃ t R, PSR (cxOf L2.CX0 P w K mg base N qual scope f cdv A outer s H E) body t ∧ t R (start N vs) H ∧
        ∀ s' σ' H' v u, Inv (cxOf L2.CX0 P w K mg base N qual scope f cdv A outer s H E) [] σ' H' s' → L2.RelV v u → R σ' H' v → CE outer P w H s Q u s') :
    FnOk P w K mg base L2.CX0 (k + 1) f (PySem.W.fnOf name qual params body scope dV kV doc pm an cdv ct) ps sp := by
  refine ⟨len, fun A outer s H args us vs Q E hr e0 hb r hsp => ?_⟩
  have hl := len _ _ _ _ hsp
  have KX : K.In s.heap := e0.mod.kin.keeps fun b o e => (e0.bs b o e).1
  have lim : s.heap.NoLimit := e0.mod.nolimit.keeps fun b o e => (e0.bs b o e).1
  have hkind : ∀ y ∈ ps.zip us, scope.names.lookup y.1 = some .local ∨ (scope.names.lookup y.1 = some .cell ∧ ((cellsFrom (s.heap.objs.size + 1) scope.names []).lookup y.1).isSome = true) := fun ⟨n, v⟩ hy => by
    rcases S.par n (List.of_mem_zip hy).1 with q | q
    · exact .inl q
    · exact .inr ⟨q, PySem.W.cellsFrom_some _ _ _ (.inl q)⟩
  refine codeAny_call_function hr.depth (KX _ _ lk) rfl S.co S.gen rfl (PySem.W.codeRec_of KX hcd) (hb _ _ _ _ ?_)
  refine wpAny_newFunctionEnv_cells S.kind hkind fun env he s1 x => ?_
  subst he
  refine ⟨lim.keeps x.toInCall.keep, codeAny_func ?_⟩
  obtain ⟨t, R, ht, hq, fin⟩ := hbody A outer s H vs Q E (hr.deeper _) hsp
  have I : Inv (cxOf L2.CX0 P w K mg base N qual scope f cdv A outer s H E) [] (start N vs) H s1 := inv_start S hr.hd e0 hl r x
  refine wpAny_mono (ht.run [] s1 (start N vs) H R I hq) (fun fl s' hs => ?_) fun e s' hs => hs
  obtain ⟨v, u, σ', H', rfl, J, rv, q⟩ := hs
  exact fin s' σ' H' v u J rv q
/-- the value of a cell of the running frame -/
theorem cell_val {X : Cx} {pins : List (Addr × Obj)} {σ : L2.St} {H : Hp} {s : Shared} {i : Nat} {x : Str} {v : V} {c : Addr} (J : Inv X pins σ H s) (hN : X.N[i]? = some x) (hs : σ[i]? = some (some v)) (hk : X.env.scope.names.lookup x = some .cell) (hc : X.env.cells.lookup x = some c) : ∃ u, L2.RelV v u ∧ s.heap.IsCell c (some u) := by
  obtain ⟨m, _, hl⟩ := J.loc
  obtain ⟨u, ru, q⟩ := hl i x v hN hs (.inr (.inl hk))
  refine ⟨u, ru, ?_⟩
  rcases q with ⟨z, _⟩ | ⟨_, c', hc', z⟩
  · have z' : X.env.scope.names.lookup x = some .local := z
    rw [hk] at z'
    cases z'
  · rw [hc] at hc'
    cases hc'
    exact z
/-- the text's makers, their tables at P1, P2, P3 -/
structure MkAt (K : PySem.W.Frag) (mg : Str → Option Value) (base : Heap) (x : Str) (st : Stmt) (P : Addr) : Prop where
  ex : ∃ (f : Addr) (oc : Value) (od : Option Addr) (dV kV doc pm : Value) (an : Option Addr) (c : Addr) (ct : Value) (osl : Array (Option Value)),
    K.lookup f = some ⟨oc, od, .func (PySem.W.fnOf x x (defArgs st) (defBody st) (defScope st) dV kV doc pm an (.ref c) ct), osl⟩ ∧ PySem.W.codeIn K (.ref c) x = true ∧ PySem.W.keepIn K (.ref f) = true ∧ mg x = some (.ref f) ∧ TabB base mg c P ∧ DflV K dV [] ∧ KwdV K kV []
def T20 (P1 P2 P3 : Addr) : List NTab := [(P1, fun _ _ => qKeeper), (P2, fun _ _ => qUns), (P3, fun _ _ => qLam)]
structure Mks (K : PySem.W.Frag) (mg : Str → Option Value) (base : Heap) (P1 P2 P3 : Addr) : Prop where
  b : MkAt K mg base "blindly" s_blindly P1
  t : MkAt K mg base "in_turn" s_in_turn P2
  l : MkAt K mg base "_law_unseeing" s_law_unseeing P3
  n12 : P1 ≠ P2
  n13 : P1 ≠ P3
  n23 : P2 ≠ P3
theorem code_seen {m : Md} {H : Hp} {c : Addr} {q : Str} (k : m.ok H) (h : H c = some (CodeO c q)) : m.vw H c = some (CodeO c q) := vw_of h rfl fun z => by
  rcases z with ⟨a, l, e⟩ | z
  · obtain ⟨i, x, s, t, e1, _⟩ := k.hand c a l e
    rw [h] at e1
    cases e1
  · obtain ⟨o, e1, _, e3⟩ := k.lo c z
    rw [h] at e1
    exact e3 q (Option.some.inj e1).symm
def spBlindly (K : PySem.W.Frag) (P1 P2 P3 : Addr) : Sp := fun vs H Q _ => ∃ (m : Md) (n : Nat) (nx : Nat → List Int → PyData) (uv : V), vs = [uv] ∧ m.ok H ∧ m.T = T20 P1 P2 P3 ∧ Is m K H uv (.uns n nx) ∧ ∀ v H', m.R H H' → Is m K H' v (.kpr n nx) → Q v H'
theorem sc_blindly : FnScope ["unseeing", "keeper", "deed"] ["unseeing"] (defScope s_blindly) := ⟨rfl, rfl, rfl, by decide +kernel, rfl, by decide +kernel, by decide +kernel⟩
theorem sKeeper_eq : ∃ p, sKeeper = .FunctionDef "keeper" (C8.fnArgs sKeeper) (C8.fnBody sKeeper) [] none [] (C8.fnScope sKeeper) none "keeper" p := ⟨_, rfl⟩
section
variable {P : Program} {w : World} {K : PySem.W.Frag} {mg : Str → Option Value} {base : Heap} {P1 P2 P3 : Addr}
theorem ok_blindly (M : Mks K mg base P1 P2 P3) : Cal P w K mg base 1 "blindly" ["unseeing"] (spBlindly K P1 P2 P3) := by
  obtain ⟨f, oc, od, dV, kV, doc, pm, an, c, ct, osl, lk, hcd, kp, hm, TB, hdv, hkv⟩ := M.b.ex
  have FD : FunD K "blindly" "blindly" (defArgs s_blindly) (defBody s_blindly) (defScope s_blindly) [] [] f (PySem.W.fnOf "blindly" "blindly" (defArgs s_blindly) (defBody s_blindly) (defScope s_blindly) dV kV doc pm an (.ref c) ct) := ⟨⟨oc, od, dV, kV, doc, pm, an, .ref c, ct, osl, rfl, lk, hcd, hdv, hkv⟩, kp⟩
  obtain ⟨pk, hst⟩ := sKeeper_eq
  refine ⟨f, _, fn_ofR (N := ["unseeing", "keeper", "deed"]) lk hcd sc_blindly (fun vs H Q E h => by obtain ⟨_, _, _, _, rfl, _⟩ := h; rfl) (fun A outer s H vs Q E hr h => ?_), hm, kp, FD.bindsN (fun _ _ _ _ _ _ us hl => match us, hl with | [_], _ => rfl)⟩
  obtain ⟨m, n, nx, uv, rfl, k, hT, iu, q⟩ := h
  refine ⟨_, fun σ' H' v => σ'[0]? = some (some uv) ∧ m.R H H' ∧ ∃ f' c', v = .ref f' ∧ H f' = none ∧ H' f' = some (FnO f' (keepF (s.heap.objs.size + 1) c')) ∧ H' c' = some (CodeO c' qKeeper),
    psr_cons (ps_ndefMS (st := sKeeper) (T := m.T) (nm := fun _ _ => qKeeper) (c := c) (P := P1) (i := 1) hst TB rfl (by rw [hT]; exact List.mem_cons_self ..) rfl (fun p hp e => ?_) ?_ rfl rfl rfl sc_blindly.nd rfl (Or.inl rfl) (Or.inr rfl)) (psr_ret (pv 1)), ?_, fun s' σ' H' v u J rv hR => ?_⟩
  · rw [hT] at hp
    rcases List.mem_cons.mp hp with z | hp
    · rw [z]
    · rcases List.mem_cons.mp hp with z | hp
      · rw [z] at e
        exact absurd e.symm M.n12
      · rw [List.mem_singleton.mp hp] at e
        exact absurd e.symm M.n13
  · have : (C8.fnScope sKeeper).names.all (fun y => !decide (y.2 = .free) || decide ((defScope s_blindly).names.lookup y.1 = some .cell)) = true := by decide +kernel
    intro y hy e
    have h2 := List.all_eq_true.mp this y hy
    rw [Bool.or_eq_true, Bool.not_eq_true', decide_eq_false_iff_not, decide_eq_true_eq] at h2
    exact h2.elim (fun z => absurd e z) .inl
  · refine ⟨k.tabs, fun f' c' H1 eN nn T1 f0 f1 c1 => ?_⟩
    refine ⟨.ref f', rfl, rfl, R.of_extN k eN T1 nn, f', c', rfl, f0, f1, c1⟩
  · obtain ⟨hs, e1, f', c', rfl, f0, f1, c1⟩ := hR
    have hcell : (cxOf L2.CX0 P w K mg base ["unseeing", "keeper", "deed"] "blindly" (defScope s_blindly) f (.ref c) A outer s H E).env.cells.lookup ("unseeing" : Str) = some (s.heap.objs.size + 1) := rfl
    obtain ⟨x, rx, hx⟩ := cell_val (i := 0) J rfl hs rfl hcell
    have hc0 : H' (s.heap.objs.size + 1) = none := J.freeC _ _ hcell
    refine ce_trk (L := [(s.heap.objs.size + 1, uv)]) J.os J.bare J.base J.hok rv (fun p hp => ?_) ?_
    · rw [List.mem_singleton.mp hp]
      exact ⟨hc0, Nat.le_succ _, x, rx, hx⟩
    · have look1 : ([(s.heap.objs.size + 1, uv)] : List (Addr × V)).lookup (s.heap.objs.size + 1) = some uv := by rw [List.lookup_cons, beq_self_eq_true]
      have hsame : Same H' (trk [(s.heap.objs.size + 1, uv)] H') := trk_same fun p hp => by
        rw [List.mem_singleton.mp hp]
        exact hc0
      have e2 : m.R H' (trk [(s.heap.objs.size + 1, uv)] H') := R.of_same e1.ok hsame
      have e12 := R.trans e1 e2
      have hHc : H (s.heap.objs.size + 1) = none := e1.dom _ hc0
      have nf : f' ≠ s.heap.objs.size + 1 := fun z => by rw [z, hc0] at f1; cases f1
      have nc : c' ≠ s.heap.objs.size + 1 := fun z => by rw [z, hc0] at c1; cases c1
      refine q _ _ e12 ⟨f', c', s.heap.objs.size + 1, uv, rfl, see k f0 (hsame _ _ f1) rfl, code_seen e12.ok (hsame _ _ c1), by simp [nf], by simp [nc], see k hHc (trk_some look1) rfl, UnsAt.mono (fun b o e => ?_) iu⟩
      have nb : b ≠ s.heap.objs.size + 1 := fun z => by
        have := vw_sub e
        rw [z, hHc] at this
        cases this
      exact del_of (e12.ex b o e) (by simp [nb])
def spInTurn (K : PySem.W.Frag) (P1 P2 P3 : Addr) : Sp := fun vs H Q _ => ∃ (m : Md) (n : Nat) (ts : List (List Int)) (uv : V), vs = [uv] ∧ m.ok H ∧ m.T = T20 P1 P2 P3 ∧ Is m K H uv (.d (.tuple (ts.map dInts))) ∧ RowsOk n ts ∧ ∀ v H', m.R H H' → Is m K H' v (.uns n (nextM ts none)) → Q v H'
theorem sc_in_turn : FnScope ["dyes", "unseeing"] ["dyes"] (defScope s_in_turn) := ⟨rfl, rfl, rfl, by decide +kernel, rfl, by decide +kernel, by decide +kernel⟩
theorem sUns_eq : ∃ p, sUns = .FunctionDef "unseeing" (C8.fnArgs sUns) (C8.fnBody sUns) [] none [] (C8.fnScope sUns) none "unseeing" p := ⟨_, rfl⟩
theorem ok_in_turn (M : Mks K mg base P1 P2 P3) : Cal P w K mg base 1 "in_turn" ["dyes"] (spInTurn K P1 P2 P3) := by
  obtain ⟨f, oc, od, dV, kV, doc, pm, an, c, ct, osl, lk, hcd, kp, hm, TB, hdv, hkv⟩ := M.t.ex
  have FD : FunD K "in_turn" "in_turn" (defArgs s_in_turn) (defBody s_in_turn) (defScope s_in_turn) [] [] f (PySem.W.fnOf "in_turn" "in_turn" (defArgs s_in_turn) (defBody s_in_turn) (defScope s_in_turn) dV kV doc pm an (.ref c) ct) := ⟨⟨oc, od, dV, kV, doc, pm, an, .ref c, ct, osl, rfl, lk, hcd, hdv, hkv⟩, kp⟩
  obtain ⟨pk, hst⟩ := sUns_eq
  refine ⟨f, _, fn_ofR (N := ["dyes", "unseeing"]) lk hcd sc_in_turn (fun vs H Q E h => by obtain ⟨_, _, _, _, rfl, _⟩ := h; rfl) (fun A outer s H vs Q E hr h => ?_), hm, kp, FD.bindsN (fun _ _ _ _ _ _ us hl => match us, hl with | [_], _ => rfl)⟩
  obtain ⟨m, n, ts, uv, rfl, k, hT, iu, hR0, q⟩ := h
  refine ⟨_, fun σ' H' v => σ'[0]? = some (some uv) ∧ m.R H H' ∧ ∃ f' c', v = .ref f' ∧ H f' = none ∧ H' f' = some (FnO f' (unsF (s.heap.objs.size + 1) c')) ∧ H' c' = some (CodeO c' qUns),
    psr_cons (ps_ndefMS (st := sUns) (T := m.T) (nm := fun _ _ => qUns) (c := c) (P := P2) (i := 1) hst TB rfl (by rw [hT]; exact List.mem_cons_of_mem _ (List.mem_cons_self ..)) rfl (fun p hp e => ?_) ?_ rfl rfl rfl sc_in_turn.nd rfl (Or.inl rfl) (Or.inr rfl)) (psr_ret (pv 1)), ?_, fun s' σ' H' v u J rv hR => ?_⟩
  · rw [hT] at hp
    rcases List.mem_cons.mp hp with z | hp
    · rw [z] at e
      exact absurd e M.n12
    · rcases List.mem_cons.mp hp with z | hp
      · rw [z]
      · rw [List.mem_singleton.mp hp] at e
        exact absurd e.symm M.n23
  · have : (C8.fnScope sUns).names.all (fun y => !decide (y.2 = .free) || decide ((defScope s_in_turn).names.lookup y.1 = some .cell)) = true := by decide +kernel
    intro y hy e
    have h2 := List.all_eq_true.mp this y hy
    rw [Bool.or_eq_true, Bool.not_eq_true', decide_eq_false_iff_not, decide_eq_true_eq] at h2
    exact h2.elim (fun z => absurd e z) .inl
  · refine ⟨k.tabs, fun f' c' H1 eN nn T1 f0 f1 c1 => ?_⟩
    refine ⟨.ref f', rfl, rfl, R.of_extN k eN T1 nn, f', c', rfl, f0, f1, c1⟩
  · obtain ⟨hs, e1, f', c', rfl, f0, f1, c1⟩ := hR
    have hcell : (cxOf L2.CX0 P w K mg base ["dyes", "unseeing"] "in_turn" (defScope s_in_turn) f (.ref c) A outer s H E).env.cells.lookup ("dyes" : Str) = some (s.heap.objs.size + 1) := rfl
    obtain ⟨x, rx, hx⟩ := cell_val (i := 0) J rfl hs rfl hcell
    have hc0 : H' (s.heap.objs.size + 1) = none := J.freeC _ _ hcell
    refine ce_trk (L := [(s.heap.objs.size + 1, uv)]) J.os J.bare J.base J.hok rv (fun p hp => ?_) ?_
    · rw [List.mem_singleton.mp hp]
      exact ⟨hc0, Nat.le_succ _, x, rx, hx⟩
    · have look1 : ([(s.heap.objs.size + 1, uv)] : List (Addr × V)).lookup (s.heap.objs.size + 1) = some uv := by rw [List.lookup_cons, beq_self_eq_true]
      have hsame : Same H' (trk [(s.heap.objs.size + 1, uv)] H') := trk_same fun p hp => by
        rw [List.mem_singleton.mp hp]
        exact hc0
      have e2 : m.R H' (trk [(s.heap.objs.size + 1, uv)] H') := R.of_same e1.ok hsame
      have e12 := R.trans e1 e2
      have hHc : H (s.heap.objs.size + 1) = none := e1.dom _ hc0
      have nf : f' ≠ s.heap.objs.size + 1 := fun z => by rw [z, hc0] at f1; cases f1
      have nc : c' ≠ s.heap.objs.size + 1 := fun z => by rw [z, hc0] at c1; cases c1
      refine q _ _ e12 (.inr ⟨f', c', s.heap.objs.size + 1, uv, ts, rfl, see k f0 (hsame _ _ f1) rfl, code_seen e12.ok (hsame _ _ c1), by simp [nf], by simp [nc], see k hHc (trk_some look1) rfl, Dp.mono (fun b o e => ?_) _ _ iu, hR0, rfl⟩)
      have nb : b ≠ s.heap.objs.size + 1 := fun z => by
        have := vw_sub e
        rw [z, hHc] at this
        cases this
      exact del_of (e12.ex b o e) (by simp [nb])
/-! ### the lambda -/
theorem inv_lam {X : Cx} {pins : List (Addr × Obj)} {σ : L2.St} {H : Hp} {s : Shared} {cl : List (Str × Addr)} {c' : Addr} {pm ctv : Value} {t' : Nat} (I : Inv X pins σ H s) :
    Inv X pins σ (upd H s.heap.objs.size (LamO s.heap.objs.size cl c')) { s with heap := s.heap.push { cls := .type "function", data := .func (PySem.W.kla_fn "<lambda>" qLam lamArgs lamBody lamScope cl pm (.ref c') ctv) }, toks := t' } := by
  refine I.laid (a := s.heap.objs.size) (fun b u e => Heap.get?_push_of_some _ e) (Nat.le_refl _) ?_
  have e := Heap.get?_push_size s.heap (o := ({ cls := .type "function", data := .func (PySem.W.kla_fn "<lambda>" qLam lamArgs lamBody lamScope cl pm (.ref c') ctv) } : Obj)) rfl
  exact ⟨⟨_, _, pm, ctv, e⟩, ⟨_, e⟩, fun h1 h2 ⟨od, sl, p, t, z⟩ st => ⟨od, sl, p, t, st _ z⟩⟩
def tLamMk (T : List NTab) (cl : List (Str × Addr)) : TE := fun _ H Q => TabsN T H ∧ ∀ (f c' : Addr) (H1 : Hp), ExtN H H1 → (∀ b, H1 b = none → H b = none) → TabsN T H1 → H f = none → H1 f = some (LamO f cl c') → H1 c' = some (CodeO c' qLam) → Q (.ref f) H1
theorem pe_lamMk {X : Cx} {T : List NTab} {nm : Nat → Nat → Str} {c Pt : Addr} {pos : Pos} (TB : TabB X.base X.mg c Pt) (hcode : X.env.code = .ref c) (hm : (Pt, nm) ∈ T) (hn : nm pos.line pos.col = qLam) (hu : ∀ p ∈ T, p.1 = Pt → p.2 = nm)
    (hq : X.env.qual ++ "<lambda>" = qLam) (hdef : defaultsOf lamArgs X.env = ([], [])) (hfree : ∀ y ∈ lamScope.names, y.2 = .free → X.env.scope.names.lookup y.1 = some .cell ∨ X.env.scope.names.lookup y.1 = some .free) :
    PE X (.Lambda lamArgs lamBody lamScope pos) (tLamMk T (cloFrom X.env.cells lamScope.names [])) := by
  refine ⟨fun pins s σ H Q I h => ?_⟩
  obtain ⟨hT, h⟩ := h
  have hfr : ∀ y ∈ lamScope.names, y.2 = .free → ∃ c, X.env.cells.lookup y.1 = some c := fun y hy e => (hfree y hy e).elim (fun z => I.ok.has _ (.inl z)) fun z => I.ok.has _ (.inr z)
  obtain ⟨ps, hP, ht, ha⟩ := (show TabN H Pt nm from hT _ hm)
  refine PySem.W.kla_eval hdef ?_
  rw [hq]
  have bP : s.heap.BuiltinsAt X.mg Pt := TB.bm.keeps I.bk
  have hP' : s.heap.get? Pt = some { cls := .none, data := .fields ps } := I.hok Pt _ hP
  cases hc : codeAmong pos ps.toList with
  | none =>
    refine PySem.W.kla_makeFunction (mg := X.mg) (c := c) (P := Pt) (ps := ps) (closure_ok hfr) I.ok.glob (I.mod.glob.keeps I.bk) hcode (TB.code.keeps I.bk) hP' ht hc TB.gP bP fun c' ctv h' tk hx hge hlt hrec htb => ?_
    obtain ⟨c2, oc, vs, t, e2, hoc, hd, hv⟩ := hrec
    cases e2
    have nC : H c' = none := I.hok.fresh hge
    have I1 := inv_table (t' := tk) (more := #[rawInt pos.line, rawInt pos.col, .ref c']) (h' := h') I hP (fun b o hb e => hx b o hb e) htb hge ⟨oc, vs, t, hoc, hd, hv⟩
    have hE : ExtN H (upd (upd H Pt (.tbl (ps ++ #[rawInt pos.line, rawInt pos.col, .ref c']))) c' (CodeO c' qLam)) := fun b o e n => by
      rw [upd_ne (ne_of_none e nC), upd_ne (fun z => n ps (Option.some.inj (e.symm.trans (by rw [z]; exact hP))))]
      exact e
    have eL : (ps ++ #[rawInt pos.line, rawInt pos.col, .ref c']).toList = ps.toList ++ [rawInt pos.line, rawInt pos.col, .ref c'] := by simp
    have T1 : TabsN T (upd (upd H Pt (.tbl (ps ++ #[rawInt pos.line, rawInt pos.col, .ref c']))) c' (CodeO c' qLam)) := fun p hp => by
      by_cases hb : p.1 = Pt
      · rw [hu p hp hb, hb]
        refine ⟨_, by rw [upd_ne (ne_of_none hP nC), upd_same], by rw [eL]; exact PySem.TriplesOk_snoc _ _ _ _ ht, fun p' cv hcv => ?_⟩
        rw [eL] at hcv
        rcases among_app2 _ ht hcv with z | ⟨z, z1, z2⟩
        · obtain ⟨c0, e1, e2⟩ := ha p' cv z
          exact ⟨c0, e1, hE _ _ e2 codeO_ne⟩
        · refine ⟨c', z, ?_⟩
          rw [← z1, ← z2, hn]
          exact upd_same
      · obtain ⟨ps', a1, a2, a3⟩ := hT p hp
        refine ⟨ps', by rw [upd_ne (ne_of_none a1 nC), upd_ne hb]; exact a1, a2, fun p' cv hcv => ?_⟩
        obtain ⟨c0, e1, e2⟩ := a3 p' cv hcv
        exact ⟨c0, e1, hE _ _ e2 codeO_ne⟩
    have nF := I1.hok.fresh (Nat.le_refl _)
    have I2 := inv_lam (cl := cloFrom X.env.cells lamScope.names []) (c' := c') (pm := (X.mg "__name__").getD .none) (ctv := ctv) (t' := tk) I1
    refine ⟨.ref h'.objs.size, _, I2, rfl, h h'.objs.size c' _ (fun b o e n => ?_) (fun b e => upd_none (upd_none (upd_none e))) (T1.ext fun b o e => ?_) (I.hok.fresh (Nat.le_trans hge (Nat.le_of_lt hlt))) upd_same ?_⟩
    · have e1 := hE b o e n
      exact (upd_ne (ne_of_none e1 nF)).trans e1
    · exact (upd_ne (ne_of_none e nF)).trans e
    · exact (upd_ne (Nat.ne_of_lt hlt)).trans upd_same
  | some cv =>
    obtain ⟨c', e, hco⟩ := ha pos cv hc
    subst e
    rw [hn] at hco
    refine PySem.W.kla_makeFunctionHit (mg := X.mg) (c := c) (P := Pt) (ps := ps) (closure_ok hfr) I.ok.glob (I.mod.glob.keeps I.bk) hcode (TB.code.keeps I.bk) hP' ht hc bP fun ctv h' tk hx hsz => ?_
    have I1 : Inv X pins σ H { s with heap := h', toks := tk } := I.kept hx
    have nF : H h'.objs.size = none := I1.hok.fresh (Nat.le_refl _)
    have I2 := inv_lam (cl := cloFrom X.env.cells lamScope.names []) (c' := c') (pm := (X.mg "__name__").getD .none) (ctv := ctv) (t' := tk) I1
    refine ⟨.ref h'.objs.size, _, I2, rfl, h h'.objs.size c' _ (fun b o e n => ?_) (fun b e => upd_none e) (hT.ext fun b o e => ?_) nF upd_same ?_⟩
    · exact (upd_ne (ne_of_none e nF)).trans e
    · exact (upd_ne (ne_of_none e nF)).trans e
    · exact (upd_ne (ne_of_none hco nF)).trans hco
def spLawUns (K : PySem.W.Frag) (P1 P2 P3 : Addr) : Sp := fun vs H Q _ => ∃ (m : Md) (n : Nat) (ts : List (List Int)) (late : Late) (tv lv : V), vs = [tv, lv] ∧ m.ok H ∧ m.T = T20 P1 P2 P3 ∧ Is m K H tv (.d (.list (ts.map dInts))) ∧ Is m K H lv (.d (dLate late)) ∧ RowsOk n ts ∧ ∀ v H', m.R H H' → Is m K H' v (.uns n (nextM ts late)) → Q v H'
theorem sc_law_unseeing : FnScope ["_law_turns_here", "_law_late_here"] ["_law_turns_here", "_law_late_here"] (defScope s_law_unseeing) := ⟨rfl, rfl, rfl, by decide +kernel, rfl, by decide +kernel, by decide +kernel⟩
theorem ok_law_unseeing (M : Mks K mg base P1 P2 P3) : Cal P w K mg base 1 "_law_unseeing" ["_law_turns_here", "_law_late_here"] (spLawUns K P1 P2 P3) := by
  obtain ⟨f, oc, od, dV, kV, doc, pm, an, c, ct, osl, lk, hcd, kp, hm, TB, hdv, hkv⟩ := M.l.ex
  have FD : FunD K "_law_unseeing" "_law_unseeing" (defArgs s_law_unseeing) (defBody s_law_unseeing) (defScope s_law_unseeing) [] [] f (PySem.W.fnOf "_law_unseeing" "_law_unseeing" (defArgs s_law_unseeing) (defBody s_law_unseeing) (defScope s_law_unseeing) dV kV doc pm an (.ref c) ct) := ⟨⟨oc, od, dV, kV, doc, pm, an, .ref c, ct, osl, rfl, lk, hcd, hdv, hkv⟩, kp⟩
  refine ⟨f, _, fn_ofR (N := ["_law_turns_here", "_law_late_here"]) lk hcd sc_law_unseeing (fun vs H Q E h => by obtain ⟨_, _, _, _, _, _, rfl, _⟩ := h; rfl) (fun A outer s H vs Q E hr h => ?_), hm, kp, FD.bindsN (fun _ _ _ _ _ _ us hl => match us, hl with | [_, _], _ => rfl)⟩
  obtain ⟨m, n, ts, late, uv, lv, rfl, k, hT, iu, il, hR0, q⟩ := h
  refine ⟨_, fun σ' H' v => σ'[0]? = some (some uv) ∧ σ'[1]? = some (some lv) ∧ m.R H H' ∧ ∃ f' c', v = .ref f' ∧ H f' = none ∧ H' f' = some (LamO f' (lamCl (s.heap.objs.size + 1) (s.heap.objs.size + 1 + 1)) c') ∧ H' c' = some (CodeO c' qLam),
    psr_ret (pe_lamMk (T := m.T) (nm := fun _ _ => qLam) (c := c) (Pt := P3) TB rfl (by rw [hT]; exact List.mem_cons_of_mem _ (List.mem_cons_of_mem _ (List.mem_cons_self ..))) rfl (fun p hp e => ?_) rfl rfl ?_), ?_, fun s' σ' H' v u J rv hR => ?_⟩
  · rw [hT] at hp
    rcases List.mem_cons.mp hp with z | hp
    · rw [z] at e
      exact absurd e M.n13
    · rcases List.mem_cons.mp hp with z | hp
      · rw [z] at e
        exact absurd e M.n23
      · rw [List.mem_singleton.mp hp]
  · have : lamScope.names.all (fun y => !decide (y.2 = .free) || decide ((defScope s_law_unseeing).names.lookup y.1 = some .cell)) = true := by decide +kernel
    intro y hy e
    have h2 := List.all_eq_true.mp this y hy
    rw [Bool.or_eq_true, Bool.not_eq_true', decide_eq_false_iff_not, decide_eq_true_eq] at h2
    exact h2.elim (fun z => absurd e z) .inl
  · refine ⟨k.tabs, fun f' c' H1 eN nn T1 f0 f1 c1 => ?_⟩
    exact ⟨rfl, rfl, R.of_extN k eN T1 nn, f', c', rfl, f0, f1, c1⟩
  · obtain ⟨hs, hs2, e1, f', c', rfl, f0, f1, c1⟩ := hR
    have hcell : (cxOf L2.CX0 P w K mg base ["_law_turns_here", "_law_late_here"] "_law_unseeing" (defScope s_law_unseeing) f (.ref c) A outer s H E).env.cells.lookup ("_law_turns_here" : Str) = some (s.heap.objs.size + 1) := rfl
    have hcell2 : (cxOf L2.CX0 P w K mg base ["_law_turns_here", "_law_late_here"] "_law_unseeing" (defScope s_law_unseeing) f (.ref c) A outer s H E).env.cells.lookup ("_law_late_here" : Str) = some (s.heap.objs.size + 1 + 1) := rfl
    obtain ⟨x, rx, hx⟩ := cell_val (i := 0) J rfl hs rfl hcell
    obtain ⟨x2, rx2, hx2⟩ := cell_val (i := 1) J rfl hs2 rfl hcell2
    have hc0 : H' (s.heap.objs.size + 1) = none := J.freeC _ _ hcell
    have hc2 : H' (s.heap.objs.size + 1 + 1) = none := J.freeC _ _ hcell2
    generalize ha : s.heap.objs.size + 1 = c1' at *
    have hge : s.heap.objs.size ≤ c1' := by omega
    clear ha
    refine ce_trk (L := [(c1', uv), (c1' + 1, lv)]) J.os J.bare J.base J.hok rv (fun p hp => ?_) ?_
    · rcases List.mem_cons.mp hp with z | z
      · rw [z]
        exact ⟨hc0, hge, x, rx, hx⟩
      · rw [List.mem_singleton.mp z]
        exact ⟨hc2, Nat.le_succ_of_le hge, x2, rx2, hx2⟩
    · have look1 : ([(c1', uv), (c1' + 1, lv)] : List (Addr × V)).lookup c1' = some uv := by rw [List.lookup_cons, beq_self_eq_true]
      have look2 : ([(c1', uv), (c1' + 1, lv)] : List (Addr × V)).lookup (c1' + 1) = some lv := by
        rw [List.lookup_cons, show ((c1' + 1) == c1') = false from beq_eq_false_iff_ne.mpr (by omega), List.lookup_cons, beq_self_eq_true]
      have hsame : Same H' (trk [(c1', uv), (c1' + 1, lv)] H') := trk_same fun p hp => by
        rcases List.mem_cons.mp hp with z | z
        · rw [z]
          exact hc0
        · rw [List.mem_singleton.mp z]
          exact hc2
      have e2 : m.R H' (trk [(c1', uv), (c1' + 1, lv)] H') := R.of_same e1.ok hsame
      have e12 := R.trans e1 e2
      have hHc : H c1' = none := e1.dom _ hc0
      have hHc2 : H (c1' + 1) = none := e1.dom _ hc2
      have nf : f' ≠ c1' := fun z => by rw [z, hc0] at f1; cases f1
      have nc : c' ≠ c1' := fun z => by rw [z, hc0] at c1; cases c1
      have nf2 : f' ≠ c1' + 1 := fun z => by rw [z, hc2] at f1; cases f1
      have nc2 : c' ≠ c1' + 1 := fun z => by rw [z, hc2] at c1; cases c1
      have hdel : Same (m.vw H) (del [c1', c1' + 1] (m.vw (trk [(c1', uv), (c1' + 1, lv)] H'))) := fun b o e => by
        have nb : b ≠ c1' := fun z => by
          have := vw_sub e
          rw [z, hHc] at this
          cases this
        have nb2 : b ≠ c1' + 1 := fun z => by
          have := vw_sub e
          rw [z, hHc2] at this
          cases this
        exact del_of (e12.ex b o e) (by simp [nb, nb2])
      exact q _ _ e12 (.inl ⟨f', c', c1', c1' + 1, uv, lv, ts, late, rfl, see k f0 (hsame _ _ f1) rfl, code_seen e12.ok (hsame _ _ c1), (fun z => absurd z.symm (Nat.succ_ne_self _)), by simp [nf, nf2], by simp [nc, nc2], see k hHc (trk_some look1) rfl, see k hHc2 (trk_some look2) rfl, Dp.mono hdel _ _ iu, Dp.mono hdel _ _ il, hR0, rfl⟩)
section
variable {m : Md} {σ : L2.St} {H : Hp} {ta tb : TE} {n : Nat}
theorem ev_blindly {nx : Nat → List Int → PyData} (hT : m.T = T20 P1 P2 P3) (h : EvD m K ta σ H (.uns n nx)) : EvD m K (tCall (spBlindly K P1 P2 P3) [] L2.E0 (tCons ta tNil)) σ H (.kpr n nx) := fun H1 e Q q => h H1 e _ fun v H2 e2 i2 => ⟨m, n, nx, v, rfl, e2.ok, hT, i2, fun v' H3 e3 i3 => q v' H3 (R.trans e2 e3) i3⟩
theorem ev_in_turn {ts : List (List Int)} (hT : m.T = T20 P1 P2 P3) (hR : RowsOk n ts) (h : EvD m K ta σ H (.d (.tuple (ts.map dInts)))) : EvD m K (tCall (spInTurn K P1 P2 P3) [] L2.E0 (tCons ta tNil)) σ H (.uns n (nextM ts none)) := fun H1 e Q q => h H1 e _ fun v H2 e2 i2 => ⟨m, n, ts, v, rfl, e2.ok, hT, i2, hR, fun v' H3 e3 i3 => q v' H3 (R.trans e2 e3) i3⟩
theorem ev_law_uns {ts : List (List Int)} {late : Late} (hT : m.T = T20 P1 P2 P3) (hR : RowsOk n ts) (h : EvD m K ta σ H (.d (.list (ts.map dInts)))) (h2 : EvD m K tb σ H (.d (dLate late))) : EvD m K (tCall (spLawUns K P1 P2 P3) [] L2.E0 (tCons ta (tCons tb tNil))) σ H (.uns n (nextM ts late)) := fun H1 e Q q => h H1 e _ fun v H2 e2 i2 => h2 H2 (R.trans e e2) _ fun v3 H3 e3 i3 => ⟨m, n, ts, late, v, v3, rfl, e3.ok, hT, i2.mono e3, i3, hR, fun v' H4 e4 i4 => q v' H4 (R.trans (R.trans e2 e3) e4) i4⟩
end
end
end K20
end
section
set_option linter.all false
set_option maxRecDepth 100000
set_option maxHeartbeats 2000000
set_option autoImplicit false
namespace K20
open PySem PySem.Spec PyProof.Rows L2 LamX NdefX PySem.W
section
variable {m : Md} {K : PySem.W.Frag} {σ : L2.St} {H H' : Hp} {ta tb te tl : TE} {v : V} {D : Ends} {tz : TS}
/-! ### a list of tuples made here -/
def NtAll (K : PySem.W.Frag) (H : Hp) (vs : List V) (xss : List (List PyData)) : Prop := vs.length = xss.length ∧ ∀ (i : Nat) v xs, vs[i]? = some v → xss[i]? = some xs → NtAt K H v xs
theorem NtAll.mono {vs : List V} {xss : List (List PyData)} (e : Same H H') (h : NtAll K H vs xss) : NtAll K H' vs xss := ⟨h.1, fun i v xs h1 h2 => (h.2 i v xs h1 h2).mono e⟩
def OwnN (m : Md) (K : PySem.W.Frag) (H : Hp) (p : Addr) (xss : List (List PyData)) : Prop := p ∈ m.lo ∧ ∃ vs, H p = some (.lst vs) ∧ NtAll K (m.vw H) vs xss
theorem OwnN.go {p : Addr} {xss : List (List PyData)} (e : m.R H H') (h : OwnN m K H p xss) : OwnN m K H' p xss := by
  obtain ⟨hp, vs, h1, h2⟩ := h
  exact ⟨hp, vs, by rw [R.lo e hp]; exact h1, h2.mono e.ex⟩
theorem z_appendN {B : List Addr} {p : Addr} {xss : List (List PyData)} {xs : List PyData} (k : m.ok H) (h : EvD m K te σ H (.v (.ref p))) (o : OwnN m K H p xss) (hv : EvD m K tb σ H (.nt xs)) (hz : xss.length < 100000) (hB : p ∉ B)
    (q : ∀ H1, Stp B m m H H1 → OwnN m K H1 p (xss ++ [xs]) → D.nx σ H1) : tDrop (tBM K "list" rAppend te (tCons tb tNil)) D σ H := h H (R.refl k) _ fun v H1 e1 i1 => by
  obtain rfl : v = .ref p := i1
  obtain ⟨hp, vs, h1, h2⟩ := o.go e1
  refine ⟨.inl ⟨rfl, vs, SqL.of h1⟩, hv H1 e1 _ fun y H2 e2 i2 => ?_⟩
  obtain ⟨_, vs', h1', h2'⟩ := o.go (R.trans e1 e2)
  refine ⟨p, vs', y, rfl, rfl, h1', Evl.sz_lt (by have := h2'.1; omega), ?_⟩
  have e12 := R.trans e1 e2
  have w : m.W [p] H2 (upd H2 p (.lst (vs' ++ [y]))) := W.put e2.ok hp (List.mem_cons_self ..)
  refine q _ ((Stp.of_r e12).trans (Stp.put e2.ok hp hB)) ⟨hp, _, upd_same, by rw [List.length_append, List.length_append, h2'.1]; rfl, fun i v xs' g1 g2 => ?_⟩
  by_cases hi : i < vs'.length
  · rw [List.getElem?_append_left hi] at g1
    rw [List.getElem?_append_left (by have := h2'.1; omega)] at g2
    exact (h2'.2 i v xs' g1 g2).mono w.ex
  · rw [List.getElem?_append_right (by omega)] at g1
    rw [List.getElem?_append_right (by have := h2'.1; omega)] at g2
    have hi0 : i - vs'.length = 0 := by
      have := (List.getElem?_eq_some_iff.mp g1).1
      simp at this
      omega
    rw [hi0] at g1
    rw [← h2'.1, hi0] at g2
    have ev := Option.some.inj g1
    have ex := Option.some.inj g2
    rw [← ev, ← ex]
    exact (show NtAt K (m.vw H2) y xs from i2).mono w.ex
theorem ev_ixN {p : Addr} {xss : List (List PyData)} {xs : List PyData} {j : Nat} (h : EvD m K ta σ H (.v (.ref p))) (o : OwnN m K H p xss) (hb : EvD m K tb σ H (.d (.int (j : Int)))) (hj : xss[j]? = some xs) : EvD m K (tOp (rIxL K) ta tb) σ H (.nt xs) := fun H1 e Q q =>
  h H1 e _ fun x H2 e2 i2 => hb H2 (R.trans e e2) _ fun y H3 e3 i3 => by
    obtain rfl : x = .ref p := i2
    rw [show y = .int (j : Int) from dp_int (i3 : Dp K (m.vw H3) y (.int (j : Int)))]
    obtain ⟨hp, vs, h1, h2⟩ := o.go (R.trans (R.trans e e2) e3)
    have hjl : j < vs.length := by rw [h2.1]; exact (List.getElem?_eq_some_iff.mp hj).1
    exact ⟨p, vs, (j : Int), vs[j], rfl, rfl, SqL.of h1, atI_nat (List.getElem?_eq_getElem hjl), q _ H3 (R.trans e2 e3) (h2.2 j _ _ (List.getElem?_eq_getElem hjl) hj)⟩
theorem ev_tupPrn {ds : List PyData} {b : PyData} (ha : EvD m K ta σ H (.nt ds)) (hb : EvD m K tb σ H (.d b)) : EvD m K (tTup (tCons ta (tCons tb tNil))) σ H (.prn ds b) := fun H1 e Q q => ha H1 e _ fun x H2 e2 i2 => hb H2 (R.trans e e2) _ fun y H3 e3 i3 => ⟨by show 2 ≤ sizeLine; decide, fun p hp => by
  have r2 : m.R H3 (upd H3 p (.tup [x, y])) := R.new e3.ok hp
  exact q _ _ (R.trans (R.trans e2 e3) r2) ⟨p, x, y, rfl, SqT.of (vw_upd e3.ok hp rfl), (i2.mono e3).mono r2, Dp.mono r2.ex _ _ i3⟩⟩
theorem g_prn {i j : Nat} {ds : List PyData} {b : PyData} {Q : L2.St → Hp → Prop} (h : Is m K H v (.prn ds b)) (q : ∀ x y, Is m K H x (.nt ds) → Is m K H y (.d b) → Q ((σ.set i (some x)).set j (some y)) H) : gTup K 2 (gCons (gName i) (gCons (gName j) gNil)) v σ H Q := by
  obtain ⟨p, x, y, rfl, h1, h2, h3⟩ := h
  exact ⟨p, _, rfl, sqT_mono vw_same h1, rfl, _, _, rfl, _, _, rfl, rfl, q _ _ h2 h3⟩
end
section
variable {P : Program} {w : World} {K : PySem.W.Frag} {mg : Str → Option Value} {base : Heap}
/-! ### row_for -/
abbrev spRowFor (K : PySem.W.Frag) : Sp := SpF K (fun a : Nat × Nat => [.d (.int (a.1 : Int)), .d (.int (a.2 : Int))]) (fun a => 1 ≤ a.2 ∧ a.2 ≤ 100) (fun a => .nt ((rowFor a.1 a.2).map dAsk))
theorem sc_row_for : FnScope ["room", "many"] ["room", "many"] (defScope s_row_for) := ⟨rfl, rfl, rfl, by decide +kernel, rfl, by decide +kernel, by decide +kernel⟩
theorem ok_row_for (T : Top K mg) : Cal P w K mg base 1 "row_for" ["room", "many"] (spRowFor K) := by
  have G := T.G
  refine T.d_row_for.cal sc_row_for (fun _ _ _ _ _ _ us hl => match us, hl with | [_, _], _ => rfl) (fun _ => rfl) (fun f cdv A outer s H0 E hr => ?_)
  refine ⟨_, (pss_one (ps_ret (pe_op op_catN (pe_op op_repU (pe_tup (pa_cons (pe_tup (pa_cons pe_str (pa_cons (pv 0) pa_nil))) (pa_cons (pe_tup (pa_cons pe_str (pa_cons (pv 0) pa_nil))) pa_nil))) (pe_op op_sub (pv 1) pe_int)) (pe_tupN (pa_cons (pe_tup (pa_cons pe_str (pa_cons (pv 0) pa_nil))) pa_nil))))), ?_⟩
  intro m ⟨r, n⟩ H vs Q k i ⟨hn1, hn⟩ q
  obtain ⟨v, v2, rfl, i1, i2⟩ := isAll2 i
  have hn1 : 1 ≤ n := hn1
  have hn : n ≤ 100 := hn
  have g : EvD m K (tTup (tCons (tC (.str "give")) (tCons (tVar 0) tNil))) (start ["room", "many"] [v, v2]) H (.d (dAsk (true, r))) := ev_tup (ds := [.str (word true), .int (r : Int)]) (ea_cons ev_str (ea_cons (ev_var rfl i1) ea_nil))
  have b : EvD m K (tTup (tCons (tC (.str "back")) (tCons (tVar 0) tNil))) (start ["room", "many"] [v, v2]) H (.d (dAsk (false, r))) := ev_tup (ds := [.str (word false), .int (r : Int)]) (ea_cons ev_str (ea_cons (ev_var rfl i1) ea_nil))
  have e1 : ((n : Int) - 1) = ((n - 1 : Nat) : Int) := by omega
  refine s_ret k ((ev_catN (ds := (List.replicate (n - 1) [dAsk (true, r), dAsk (false, r)]).flatten) (es := [dAsk (true, r)]) (ev_repU (n := n - 1) (ds := [dAsk (true, r), dAsk (false, r)]) (ev_tup (ds := [dAsk (true, r), dAsk (false, r)]) (ea_cons g (ea_cons b ea_nil))) ((ev_ii (ev_var rfl i2) ev_int).is (by rw [e1])) (by simp) (by omega) (by simp)) (ev_tupN (ds := [dAsk (true, r)]) (ea_cons g ea_nil)) (by simp) ?_).is ?_) fun v H1 e i1 => q _ v H1 e rfl i1
  · rw [PyProof.Rows.lm_len_rep_flat]
    show (n - 1) * 2 + 1 ≤ 100000
    omega
  · show Dx.nt _ = Dx.nt _
    congr 1
    unfold rowFor
    rw [List.map_append, List.map_flatten, List.map_replicate]
    rfl
/-! ### tags_of -/
abbrev spTagsOf (K : PySem.W.Frag) : Sp := SpF K (fun a : (Wb × Nat × (Nat → List Int → PyData)) × Nat × Nat × Nat => [.uns a.1.2.1 a.1.2.2, .web a.1.1.1 a.1.1.2, .d (.int (a.2.1 : Int)), .d (.int (a.2.2.1 : Int)), .d (.int (a.2.2.2 : Int))])
  (fun a => a.2.2.1 < a.1.2.1 ∧ a.2.2.1 < a.1.1.1.length ∧ 1 ≤ a.2.2.2 ∧ a.2.2.2 ≤ 60)
  (fun a => .prn (dTags (tagsR a.1.2.2 a.2.1 (a.1.1.1.getD a.2.2.1 0) a.2.2.1 a.2.2.2 [])) (.bool (tagsR a.1.2.2 a.2.1 (a.1.1.1.getD a.2.2.1 0) a.2.2.1 a.2.2.2 []).2.isSome))
theorem cutD_ints {ns : List Int} {n : Nat} : cutD (ns.map PyData.int) (some (n : Int)) none = (ns.drop n).map PyData.int := by
  rw [cutD_drop, List.map_drop]
theorem sc_tags_of : FnScope ["unseeing", "web", "k", "room", "many", "found", "turn", "tag", "is_bad"] ["unseeing", "web", "k", "room", "many"] (defScope s_tags_of) := ⟨rfl, rfl, rfl, by decide +kernel, rfl, by decide +kernel, by decide +kernel⟩
theorem ok_tags_of (T : Top K mg) : Cal P w K mg base 4 "tags_of" ["unseeing", "web", "k", "room", "many"] (spTagsOf K) := by
  have G := T.G
  refine T.d_tags_of.cal sc_tags_of (fun _ _ _ _ _ _ us hl => match us, hl with | [_, _, _, _, _], _ => rfl) (fun _ => rfl) (fun f cdv A outer s H0 E hr => ?_)
  refine ⟨_, (pss_cons (ps_set (i := 5) sc_tags_of.nd rfl (Or.inl rfl) (pe_tup pa_nil))
    (pss_cons (ps_for PassesOwn.never rfl (pi_range1 (by rfl) G.range_ (pa_cons (pv 4) pa_nil)) (pg_name (i := 6) sc_tags_of.nd rfl (Or.inl rfl))
    (pss_cons (ps_set (i := 7) sc_tags_of.nd rfl (Or.inl rfl) (pe_callV (i := 0) (cr_uns T (hr.mono (by decide)) rfl) rfl (by first | exact Or.inl rfl | exact Or.inr (Or.inl rfl) | exact Or.inr (Or.inr rfl)) (pa_cons (pv 1) (pa_cons (pv 2) (pa_cons (pv 3) (pa_cons (pv 5) pa_nil))))))
    (pss_cons (ps_set (i := 8) sc_tags_of.nd rfl (Or.inl rfl) (pe_or (pe_not (pe_cal (ok_is_number T) (hr.mono (by decide)) (by rfl) (pa_cons (pv 7) pa_nil))) (pe_one (pe_cmpR op_ge (pv 7) (pv 2) (nomark _)))))
    (pss_cons (ps_if (PW.pt (pw_or (pt_val (pv 8)) (pw_or1 (pt_cmpR op_in_seq (pv 7) (pe_slice sl_tupA (pv 5) (po_some (pe_op op_sub (pe_callB call_len_seq (by rfl) G.len_ (by decide +kernel) (pa_cons (pv 5) pa_nil)) (pe_callB (call_min2 rfl) (by rfl) G.min_ (by decide +kernel) (pa_cons (pe_callB call_len_seq (by rfl) G.len_ (by decide +kernel) (pa_cons (pv 5) pa_nil)) (pa_cons (pe_ix ix_tup (pe_fld (pv 1) rfl) (pv 3) (fun _ _ => rfl)) pa_nil))))) po_none) (by rfl))))) (pss_one (ps_ret (pe_tup (pa_cons (pe_op op_catN (pv 5) (pe_tupN (pa_cons (pv 7) pa_nil))) (pa_cons pe_bl pa_nil))))) pss_nil)
    (pss_one (ps_set (i := 5) sc_tags_of.nd rfl (Or.inl rfl) (pe_op op_catN (pv 5) (pe_tupN (pa_cons (pv 7) pa_nil)))))))))
    (pss_one (ps_ret (pe_tup (pa_cons (pv 5) (pa_cons pe_bl pa_nil))))))), ?_⟩
  intro m ⟨⟨⟨ms, ts⟩, n, nx⟩, k', r, many⟩ H vs Q k i ⟨hr, hrm, hm1, hm⟩ q
  obtain ⟨v, v2, v3, v4, v5, rfl, i1, i2, i3, i4, i5⟩ := isAll5 (show IsAll m K H vs [.uns n nx, .web ms ts, .d (.int (k' : Int)), .d (.int (r : Int)), .d (.int (many : Int))] from i)
  simp only at hr hrm hm1 hm
  refine q_asg (K := K) k (ev_tup (ds := []) ea_nil) fun v6 H1 e1 i6 => ?_
  refine q_forR1 (ps := []) e1.ok (ea_cons (ev_var rfl (i5.mono e1)) ea_nil) (by omega) (fun j σ' H' => ∃ (found : List Int) (vf : V) (a b c : Option V), σ' = [some v, some v2, some v3, some v4, some v5, some vf, a, b, c] ∧ found.length = j ∧ Is m K H' vf (.d (dInts found)) ∧ (found ≠ [] → Is m K H' vf (.nt (found.map .int))) ∧ tagsR nx k' (ms.getD r 0) r many [] = tagsR nx k' (ms.getD r 0) r (many - j) found)
    (fun H2 e2 => ⟨[], v6, none, none, none, rfl, rfl, i6.mono e2, fun z => absurd rfl z, rfl⟩) (fun H2 j σ' H' hj e2 w2 pv => ?_) fun σ' H' w2 pv => ?_
  · obtain ⟨found, vf, a, b, c, rfl, hfl, hf1, hf2, hf3⟩ := pv
    have e3 : m.R H H' := R.trans (R.trans e1 e2) w2
    have hstep : tagsR nx k' (ms.getD r 0) r (many - j) found = if badM k' (ms.getD r 0) found (nx r found) = true then (found, some (nx r found)) else tagsR nx k' (ms.getD r 0) r (many - (j + 1)) (found ++ [tagI (nx r found)]) := by
      have : many - j = (many - (j + 1)) + 1 := by omega
      rw [this]
      rfl
    refine q_asg w2.ok (ev_callU (ev_var rfl (i1.mono e3)) hr (ea_cons (ev_var rfl (i2.mono e3)) (ea_cons (ev_var rfl (i3.mono e3)) (ea_cons (ev_var rfl (i4.mono e3)) (ea_cons (ev_var rfl hf1) ea_nil))))) fun vt H4 e4 it => ?_
    have hbadE : ∀ H5, m.R H' H5 → m.R H4 H5 → Is m K H5 vt (.d (nx r found)) → EvD m K (tOrV (tNotV (tCall (spIsNumber K) [] L2.E0 (tCons (tVar 7) tNil))) (tOp (rI0 fun i j => .bl (decide (j ≤ i))) (tVar 7) (tVar 2))) [some v, some v2, some v3, some v4, some v5, some vf, some (.int (j : Int)), some vt, c] H5 (.d (.bool (oddM k' (nx r found)))) := fun H5 e5 e45 it5 => by
      cases hint : isInt (nx r found) with
      | false =>
        refine (ev_orV (b := true) (ev_notV (ev_call (x := nx r found) (ea_cons (ev_var rfl it5) ea_nil) True.intro)) fun z => ?_).b ?_
        · have : isNum (nx r found) = false := by
            revert hint
            cases nx r found <;> intro hint <;> first | rfl | cases hint
          have z2 : (!isNum (nx r found)) = false := z
          rw [this] at z2
          cases z2
        · rw [Bool.or_true]
          revert hint
          cases nx r found <;> intro hint <;> first | rfl | cases hint
      | true =>
        obtain ⟨t, ht⟩ := int_of hint
        rw [ht] at it5 ⊢
        exact (ev_orV (ev_notV (ev_call (x := PyData.int t) (ea_cons (ev_var rfl it5) ea_nil) True.intro)) fun _ => ev_ib (g := fun i j => decide (j ≤ i)) (ev_var rfl it5) (ev_var rfl (i3.mono (R.trans e3 e5)))).b (num_odd k' (.int t) rfl)
    refine q_asg e4.ok (hbadE H4 e4 (R.refl e4.ok) it) fun vb H5 e5 ib => ?_
    have e45 := R.trans e4 e5
    have e35 := R.trans e3 e45
    refine q_when (b := badM k' (ms.getD r 0) found (nx r found)) e5.ok (et_or (et_B (ev_var rfl ib)) fun z => ?_) (fun hb H6 e6 => ?_) fun hb H6 e6 => ?_
    · have hint : ∃ t, nx r found = .int t := by
        revert z
        cases nx r found <;> intro z <;> first | exact ⟨_, rfl⟩ | cases z
      obtain ⟨t, ht⟩ := hint
      rw [ht]
      rw [ht] at it
      have hme := mem_at hrm
      refine et_test (ev_inT (ev_var rfl (it.mono e5)) ((ev_slT (ds := found.map .int) (lo := some ((found.length - min found.length (ms.getD r 0) : Nat) : Int)) (ev_var rfl (hf1.mono e45)) (eo_some ((ev_ii (ev_lenT (ds := found.map .int) (ev_var rfl (hf1.mono e45))) (ev_i2 (ev_lenT (ds := found.map .int) (ev_var rfl (hf1.mono e45))) (ev_ixT (ev_mems (ev_var rfl (i2.mono e35)) G.cW G.nM) (ev_var rfl (i4.mono e35)) (atI_nat hme)))).is ?_)) eo_none).is (by rw [cutD_ints])))
      show Dx.d (.int (((found.map PyData.int).length : Int) - (if ((ms.getD r 0 : Nat) : Int) < ((found.map PyData.int).length : Int) then ((ms.getD r 0 : Nat) : Int) else ((found.map PyData.int).length : Int)))) = _
      rw [List.length_map]
      congr 2
      split <;> omega
    · have e56 := R.trans e45 e6
      have e06 := R.trans e3 e56
      refine s_ret e6.ok (ev_tupPrn (ev_catN (ds := found.map .int) (es := [nx r found]) (ev_var rfl (hf1.mono e56)) (ev_tupN (ds := [nx r found]) (ea_cons (ev_var rfl ((it.mono e5).mono e6)) ea_nil)) (by simp) (by rw [List.length_map]; simp only [List.length_singleton]; omega)) ev_bl) fun vr H7 e7 i7 => q _ vr H7 (R.trans e06 e7) rfl ?_
      show Is m K H7 vr (.prn (dTags (tagsR nx k' (ms.getD r 0) r many [])) (.bool (tagsR nx k' (ms.getD r 0) r many []).2.isSome))
      rw [hf3, hstep, if_pos hb]
      exact i7
    · have hint : ∃ t, nx r found = .int t := by
        revert hb
        unfold badM
        cases nx r found <;> intro z <;> first | exact ⟨_, rfl⟩ | cases z
      obtain ⟨t, ht⟩ := hint
      have e56 := R.trans e45 e6
      have it6 := (it.mono e5).mono e6
      rw [ht] at it6
      refine s_asg e6.ok (ev_catN (ds := found.map .int) (es := [.int t]) (ev_var rfl (hf1.mono e56)) (ev_tupN (ds := [.int t]) (ea_cons (ev_var rfl it6) ea_nil)) (by simp) (by rw [List.length_map]; simp only [List.length_singleton]; omega)) fun vr H7 e7 i7 => ⟨W.trans w2 (R.trans e56 e7), found ++ [t], vr, _, _, _, rfl, by rw [List.length_append, hfl]; rfl, ?_, fun _ => ?_, ?_⟩
      · have i8 := i7.d_of_nt
        refine i8.e ?_
        unfold dInts
        rw [List.map_append]
        rfl
      · rw [List.map_append]
        exact i7
      · rw [hf3, hstep, if_neg (by rw [hb]; decide), ht]
        rfl
  · obtain ⟨found, vf, a, b, c, rfl, hfl, hf1, hf2, hf3⟩ := pv
    have hne : found ≠ [] := fun z => by
      rw [z] at hfl
      have : (0 : Nat) = many := hfl
      omega
    rw [Nat.sub_self] at hf3
    refine s_ret w2.ok (ev_tupPrn (ev_var rfl (hf2 hne)) ev_bl) fun vr H7 e7 i7 => q _ vr H7 (R.trans (R.trans e1 w2) e7) rfl ?_
    show Is m K H7 vr (.prn (dTags (tagsR nx k' (ms.getD r 0) r many [])) (.bool (tagsR nx k' (ms.getD r 0) r many []).2.isSome))
    rw [hf3]
    show Is m K H7 vr (.prn (found.map .int ++ []) (.bool false))
    rw [List.append_nil]
    exact i7
end
end K20
end
section
set_option linter.all false
set_option maxRecDepth 100000
set_option maxHeartbeats 2000000
set_option autoImplicit false
namespace K20
open PySem PySem.Spec PyProof.Rows L2 LamX NdefX PySem.W
theorem findSome_at {α β : Type} {f : α → Option β} {a : α} {x : β} : ∀ {l : List α} {i : Nat}, l[i]? = some a → (∀ j b, j < i → l[j]? = some b → f b = none) → f a = some x → l.findSome? f = some x
  | [], _, h, _, _ => by simp at h
  | b :: l, 0, h, _, hx => by
    have : b = a := Option.some.inj h
    rw [List.findSome?_cons, this, hx]
  | b :: l, i + 1, h, h0, hx => by
    rw [List.findSome?_cons, h0 0 b (Nat.succ_pos _) rfl]
    exact findSome_at (i := i) h (fun j b hj hb => h0 (j + 1) b (Nat.succ_lt_succ hj) hb) hx
theorem findSome_non {α β : Type} {f : α → Option β} : ∀ {l : List α}, (∀ (i : Nat) b, l[i]? = some b → f b = none) → l.findSome? f = none
  | [], _ => rfl
  | b :: l, h => by
    rw [List.findSome?_cons, h 0 b rfl]
    exact findSome_non fun i b hb => h (i + 1) b hb
theorem tagsR_len (nx : Nat → List Int → PyData) (k mem r : Nat) : ∀ (n : Nat) (found : List Int), (tagsR nx k mem r n found).1.length ≤ found.length + n
  | 0, found => Nat.le_refl _
  | n + 1, found => by
    show (if badM k mem found (nx r found) = true then (found, some (nx r found)) else tagsR nx k mem r n (found ++ [tagI (nx r found)])).1.length ≤ _
    split
    · show found.length ≤ _
      omega
    · have := tagsR_len nx k mem r n (found ++ [tagI (nx r found)])
      rw [List.length_append, List.length_singleton] at this
      omega
theorem rowFor_len (r n : Nat) (h : 1 ≤ n) : (rowFor r n).length = 2 * n - 1 := by
  unfold rowFor
  rw [List.length_append, PyProof.Rows.lm_len_rep_flat]
  show (n - 1) * 2 + 1 = _
  omega
section
variable {m : Md} {K : PySem.W.Frag} {σ : L2.St} {H H' : Hp} {tl : TE} {D : Ends} {tu : TS}
theorem s_forE {ps : List Addr} {i j : Nat} {ds : List PyData} (k : m.ok H) (h : EvD m K tl σ H (.d (.tuple ds))) (Pv : Nat → L2.St → Hp → Prop) (h0 : ∀ H1, m.R H H1 → Pv 0 σ H1)
    (hs : ∀ H1 n d v σ' H0 H', ds[n]? = some d → m.R H H1 → m.W ps H1 H0 → m.R H0 H' → Pv n σ' H0 → Is m K H' v (.d d) → tu { D with nx := Nx m ps H1 (Pv (n + 1)), ct := Nx m ps H1 (Pv (n + 1)), bk := D.nx } ((σ'.set i (some (.int (n : Int)))).set j (some v)) H')
    (hd : ∀ σ' H', m.W ps H H' → Pv ds.length σ' H' → D.nx σ' H') : tFor (iEnumT K (tCons tl tNil)) (gTup K 2 (gCons (gName i) (gCons (gName j) gNil))) tu D σ H := by
  show tSeq (tFor (iEnumT K (tCons tl tNil)) (gTup K 2 (gCons (gName i) (gCons (gName j) gNil))) tu) (fun D σ H => D.nx σ H) D σ H
  exact q_forE k h Pv h0 hs hd
end
section
variable {P : Program} {w : World} {K : PySem.W.Frag} {mg : Str → Option Value} {base : Heap}
abbrev spBlindRow (K : PySem.W.Frag) : Sp := SpP K (fun a : (Wb × (Nat → List Int → PyData)) × Nat × Nat => [.uns a.1.1.1.length a.1.2, .web a.1.1.1 a.1.1.2, .d (.int (a.2.1 : Int)), .d (.int (a.2.2 : Int))])
  (fun a => WebOk a.1.1.1 a.1.1.2 ∧ 1 ≤ a.2.1 ∧ a.2.1 ≤ 200 ∧ 1 ≤ a.2.2 ∧ a.2.2 ≤ 60)
  (fun a r => (blindM a.1.2 a.1.1.1 a.1.1.2 a.2.1 a.2.2 = none ∧ r = .d .none) ∨ ∃ row, blindM a.1.2 a.1.1.1 a.1.1.2 a.2.1 a.2.2 = some row ∧ r = .nt (row.map dAsk))
theorem sc_blind_row : FnScope ["unseeing", "web", "k", "many", "rows", "room", "tags", "is_bad", "one", "other", "at", "tag"] ["unseeing", "web", "k", "many"] (defScope s_blind_row) := ⟨rfl, rfl, rfl, by decide +kernel, rfl, by decide +kernel, by decide +kernel⟩
theorem ok_blind_row (T : Top K mg) : Cal P w K mg base 5 "blind_row" ["unseeing", "web", "k", "many"] (spBlindRow K) := by
  have G := T.G
  obtain ⟨_, gEach⟩ := G.mEach
  refine T.d_blind_row.cal sc_blind_row (fun _ _ _ _ _ _ us hl => match us, hl with | [_, _, _, _], _ => rfl) (fun _ => rfl) (fun f cdv A outer s H0 E hr => ?_)
  refine ⟨_, (pss_cons (ps_expr (pe_cal (ok_check_tags T) (hr.mono (by decide)) (by rfl) (pa_cons (pv 2) pa_nil)))
    (pss_cons (ps_expr (pe_cal (ok_check_number T) (hr.mono (by decide)) (by rfl) (pa_cons (pv 3) (pa_cons pe_int (pa_cons (pe_glob (v := .int 60) (by rfl) gEach ⟨_, rfl⟩) pa_nil)))))
    (pss_cons (ps_set (i := 4) sc_blind_row.nd rfl (Or.inl rfl) (pe_lst pa_nil))
    (pss_cons (ps_for PassesOwn.never rfl (pi_range1 (by rfl) G.range_ (pa_cons (pe_callB call_len_seq (by rfl) G.len_ (by decide +kernel) (pa_cons (pe_fld (pv 1) rfl) pa_nil)) pa_nil)) (pg_name (i := 5) sc_blind_row.nd rfl (Or.inl rfl))
    (pss_cons (ps_asg (pe_cal (ok_tags_of T) (hr.mono (by decide)) (by rfl) (pa_cons (pv 0) (pa_cons (pv 1) (pa_cons (pv 2) (pa_cons (pv 5) (pa_cons (pv 3) pa_nil)))))) (pg_tup rfl (pgs_cons (pg_name (i := 6) sc_blind_row.nd rfl (Or.inl rfl)) (pgs_cons (pg_name (i := 7) sc_blind_row.nd rfl (Or.inl rfl)) pgs_nil))))
    (pss_cons (ps_if (pt_val (pv 7)) (pss_one (ps_ret (pe_cal (ok_row_for T) (hr.mono (by decide)) (by rfl) (pa_cons (pv 5) (pa_cons (pe_callB call_len_seq (by rfl) G.len_ (by decide +kernel) (pa_cons (pv 6) pa_nil)) pa_nil))))) pss_nil)
    (pss_one (ps_expr (pe_bm PySem.F.plainAttrs_list PySem.F.slot_list_append PySem.F.type_list_append mt_append (pv 4) (pa_cons (pv 6) pa_nil)))))))
    (pss_cons (ps_for PassesOwn.never rfl (pi_tup (pe_fld (pv 1) rfl)) (pg_tup rfl (pgs_cons (pg_name (i := 8) sc_blind_row.nd rfl (Or.inl rfl)) (pgs_cons (pg_name (i := 9) sc_blind_row.nd rfl (Or.inl rfl)) pgs_nil)))
    (pss_one (ps_for PassesOwn.never rfl (pi_enumT (by rfl) G.enumerate_ (pa_cons (pe_ix ix_list (pv 4) (pv 8) (fun _ _ => rfl)) pa_nil)) (pg_tup rfl (pgs_cons (pg_name (i := 10) sc_blind_row.nd rfl (Or.inl rfl)) (pgs_cons (pg_name (i := 11) sc_blind_row.nd rfl (Or.inl rfl)) pgs_nil)))
    (pss_one (ps_if (pt_cmpR op_in_seq (pv 11) (pe_ix ix_list (pv 4) (pv 9) (fun _ _ => rfl)) (by rfl)) (pss_one (ps_ret (pe_op op_catN (pe_cal (ok_row_for T) (hr.mono (by decide)) (by rfl) (pa_cons (pv 8) (pa_cons (pe_op op_add (pv 10) pe_int) pa_nil))) (pe_cal (ok_row_for T) (hr.mono (by decide)) (by rfl) (pa_cons (pv 9) (pa_cons (pe_op op_add (pe_bmN PySem.F.slot_tuple_index PySem.F.type_tuple_index mt_tindex (pe_ix ix_list (pv 4) (pv 9) (fun _ _ => rfl)) (pa_cons (pv 11) pa_nil)) pe_int) pa_nil)))))) pss_nil)))))
    (pss_one (ps_ret pe_non))))))), ?_⟩
  intro m ⟨⟨⟨ms, ts⟩, nx⟩, k', many⟩ H vs Q k i ⟨hw, hk1, hk2, hm1, hm⟩ q
  obtain ⟨v, v2, v3, v4, rfl, i1, i2, i3, i4⟩ := isAll4 (show IsAll m K H vs [.uns ms.length nx, .web ms ts, .d (.int (k' : Int)), .d (.int (many : Int))] from i)
  simp only at hw hk1 hk2 hm1 hm
  replace q : ∀ r v H', m.R H H' → (blindM nx ms ts k' many = none ∧ r = .d .none ∨ ∃ row, blindM nx ms ts k' many = some row ∧ r = .nt (row.map dAsk)) → Is m K H' v r → Q v H' := q
  refine q_drop k (ev_call (x := PyData.int (k' : Int)) (ea_cons (ev_var rfl i3) ea_nil) (within_ok (by omega) (by omega))) fun H1 e1 => ?_
  refine q_drop e1.ok (ev_call (x := (PyData.int (many : Int), (1 : Int), (60 : Int))) (ea_cons (ev_var rfl (i4.mono e1)) (ea_cons ev_int (ea_cons ev_int ea_nil))) (within_ok (by show (1 : Int) ≤ (many : Int); omega) (by show (many : Int) ≤ 60; omega))) fun H2 e2 => ?_
  have e12 := R.trans e1 e2
  refine ⟨by show 0 ≤ sizeLine; exact Nat.zero_le _, fun p hp => ?_⟩
  have s1 : Stp m.lo m (m.hide p) H (upd H2 p (.lst [])) := (Stp.of_r e12).trans (Stp.hide e2.ok hp)
  have hB : p ∉ m.lo := fun z => by
    obtain ⟨o, ho, _⟩ := k.lo p z
    have := e12.dom p hp
    rw [this] at ho
    cases ho
  have o0 : OwnN (m.hide p) K (upd H2 p (.lst [])) p [] := ⟨List.mem_cons_self .., [], upd_same, rfl, fun i v xs h => by simp at h⟩
  let tr : Nat → List Int × Option PyData := fun r => tagsR nx k' (ms.getD r 0) r many []
  have hn5 := hw.n5
  have fst : Nat → Option (List Ask) := fun r => if (tr r).2.isSome = true then some (rowFor r ((tr r).1.length + 1)) else none
  refine z_forR1 (B := m.lo) (n := ms.length) s1.ok (ea_cons ((ev_lenT (ev_mems (ev_var rfl (s1.is i2)) G.cW G.nM)).is (by rw [List.length_map])) ea_nil) (by omega) (fun i m' σ' H' => m' = m.hide p ∧ (∃ a b c d e f g, σ' = [some v, some v2, some v3, some v4, some (.ref p), a, b, c, d, e, f, g]) ∧ OwnN (m.hide p) K H' p ((List.range i).map fun r => (tr r).1.map PyData.int) ∧ ∀ r, r < i → (tr r).2 = none)
    (fun H3 e3 => ⟨rfl, ⟨_, _, _, _, _, _, _, rfl⟩, o0.go e3, fun r hr => absurd hr (Nat.not_lt_zero r)⟩) (fun H3 r m' σ' H' hr' e3 s3 pv => ?_) fun m' σ' H' s3 pv => ?_
  · obtain ⟨rfl, ⟨a, b, c, d, e, f, g, rfl⟩, ow, hgood⟩ := pv
    have s4 : Stp m.lo m (m.hide p) H H' := (s1.then_r e3).trans s3
    refine (ev_call (x := (((ms, ts), ms.length, nx), k', r, many)) (ea_cons (ev_var rfl (s4.is i1)) (ea_cons (ev_var rfl (s4.is i2)) (ea_cons (ev_var rfl (s4.is i3)) (ea_cons (ev_var rfl (.int (r : Int))) (ea_cons (ev_var rfl (s4.is i4)) ea_nil))))) ⟨hr', hr', hm1, hm⟩ : EvD (m.hide p) K (tCall (spTagsOf K) [] L2.E0 (tCons (tVar 0) (tCons (tVar 1) (tCons (tVar 2) (tCons (tVar 5) (tCons (tVar 3) tNil)))))) [some v, some v2, some v3, some v4, some (.ref p), some (.int (r : Int)), b, c, d, e, f, g] H' (.prn (dTags (tr r)) (.bool (tr r).2.isSome))) H' (R.refl s4.ok) _ fun vt H5 e5 it => ?_
    refine g_prn it fun x y ix iy => ?_
    have s5 := s4.then_r e5
    refine q_when (b := (tr r).2.isSome) e5.ok (et_B (ev_var rfl iy)) (fun hb H6 e6 => ?_) fun hb H6 e6 => ?_
    · have hlen : (dTags (tr r)).length = (tr r).1.length + 1 := by
        unfold dTags
        cases ht : (tr r).2 with
        | none => rw [ht] at hb; cases hb
        | some o =>
          rw [List.length_append, List.length_map]
          rfl
      have hle : (tr r).1.length ≤ 0 + many := tagsR_len nx k' (ms.getD r 0) r many []
      have hle' : (tr r).1.length ≤ 60 := by omega
      refine s_ret e6.ok (ev_call (x := (r, (tr r).1.length + 1)) (ea_cons (ev_var rfl (.int (r : Int))) (ea_cons ((ev_lenT (ev_ntd (ev_var rfl (ix.mono e6)))).is (by rw [hlen])) ea_nil)) ⟨by omega, by omega⟩) fun vr H7 e7 i7 => q _ vr H7 ((s5.then_r e6).then_r e7).r (.inr ⟨rowFor r ((tr r).1.length + 1), ?_, rfl⟩) i7.unhide
      have hfs : (List.range ms.length).findSome? (fun r => if (tr r).2.isSome = true then some (rowFor r ((tr r).1.length + 1)) else none) = some (rowFor r ((tr r).1.length + 1)) := by
        refine findSome_at (i := r) (a := r) (List.getElem?_range hr') (fun j b hj hb2 => ?_) (if_pos hb)
        have hbj : b = j := by
          rw [List.getElem?_range (by omega)] at hb2
          exact (Option.some.inj hb2).symm
        rw [hbj, if_neg]
        rw [hgood j hj]
        decide
      unfold blindM
      rw [show (List.range ms.length).findSome? (fun r => if (tagsR nx k' (ms.getD r 0) r many []).2.isSome = true then some (rowFor r ((tagsR nx k' (ms.getD r 0) r many []).1.length + 1)) else none) = _ from hfs]
    · have hnone : (tr r).2 = none := by
        cases ht : (tr r).2 with
        | none => rfl
        | some o => rw [ht] at hb; cases hb
      have hds : dTags (tr r) = (tr r).1.map PyData.int := by
        unfold dTags
        rw [hnone]
        exact List.append_nil _
      have s6 := s5.then_r e6
      have ow6 := (ow.go e5).go e6
      refine z_appendN (B := m.lo) e6.ok (ev_var rfl rfl) ow6 (ev_var rfl (ix.mono e6)) (by rw [List.length_map, List.length_range]; omega) hB fun H7 s7 o7 => ⟨m.hide p, ((s3.then_r e5).then_r e6).trans s7, rfl, ⟨_, _, _, _, _, _, _, rfl⟩, ?_, fun j hj => ?_⟩
      · rw [List.range_succ, List.map_append]
        show OwnN (m.hide p) K H7 p (_ ++ [(tr r).1.map PyData.int])
        rw [← hds]
        exact o7
      · rcases Nat.lt_succ_iff_lt_or_eq.mp hj with h | h
        · exact hgood j h
        · rw [h]
          exact hnone
  · obtain ⟨rfl, ⟨a, b, c, d, e, f, g, rfl⟩, ow, hgood⟩ := pv
    have s4 : Stp m.lo m (m.hide p) H H' := s1.trans s3
    have hfirst : (List.range ms.length).findSome? (fun r => if (tr r).2.isSome = true then some (rowFor r ((tr r).1.length + 1)) else none) = none := findSome_non fun i b hb => by
      have hi : i < ms.length := by
        have := (List.getElem?_eq_some_iff.mp hb).1
        rwa [List.length_range] at this
      rw [List.getElem?_range hi] at hb
      rw [← Option.some.inj hb, if_neg]
      rw [hgood i hi]
      decide
    have hbm : blindM nx ms ts k' many = ts.findSome? fun p => conf p.1 p.2 (tr p.1).1 (tr p.2).1 := by
      unfold blindM
      rw [show (List.range ms.length).findSome? (fun r => if (tagsR nx k' (ms.getD r 0) r many []).2.isSome = true then some (rowFor r ((tagsR nx k' (ms.getD r 0) r many []).1.length + 1)) else none) = none from hfirst]
    have rows_at : ∀ r, r < ms.length → ((List.range ms.length).map fun r => (tr r).1.map PyData.int)[r]? = some ((tr r).1.map PyData.int) := fun r hr => by
      rw [List.getElem?_map, List.getElem?_range hr]
      rfl
    have tlen : ∀ r, (tr r).1.length ≤ 60 := fun r => by
      have := tagsR_len nx k' (ms.getD r 0) r many []
      rw [List.length_nil] at this
      show (tagsR nx k' (ms.getD r 0) r many []).1.length ≤ 60
      omega
    refine z_forT (B := m.lo) (ds := ts.map dPair) s4.ok (ev_ties (ev_var rfl (s4.is i2)) G.cW G.nT) (fun i m' σ' H'' => m' = m.hide p ∧ (∃ a b c d e f g, σ' = [some v, some v2, some v3, some v4, some (.ref p), a, b, c, d, e, f, g]) ∧ OwnN (m.hide p) K H'' p ((List.range ms.length).map fun r => (tr r).1.map PyData.int) ∧ ∀ j pr, j < i → ts[j]? = some pr → conf pr.1 pr.2 (tr pr.1).1 (tr pr.2).1 = none)
      (fun H5 e5 => ⟨rfl, ⟨_, _, _, _, _, _, _, rfl⟩, ow.go e5, fun j pr hj => absurd hj (Nat.not_lt_zero j)⟩) (fun H5 i dd vd m' σ' H6 hd e5 s5 pv id => ?_) fun m' σ' H6 s5 pv => ?_
    · obtain ⟨rfl, ⟨a, b, c, d, e, f, g, rfl⟩, ow6, hno⟩ := pv
      rw [List.getElem?_map] at hd
      obtain ⟨pr, hpr, rfl⟩ := Option.map_eq_some_iff.mp hd
      obtain ⟨t1, t2⟩ := hw.tie pr (List.mem_of_getElem? hpr)
      have s6 : Stp m.lo m (m.hide p) H H6 := (s4.then_r e5).trans s5
      refine g_pair id fun x y ix iy => ?_
      let xs := (tr pr.1).1
      let ys := (tr pr.2).1
      have hrow1 : ∀ H7, (m.hide p).R H6 H7 → ∀ cc dd, EvD (m.hide p) K (tOp (rIxL K) (tVar 4) (tVar 8)) [some v, some v2, some v3, some v4, some (.ref p), a, b, c, some x, some y, cc, dd] H7 (.nt (xs.map .int)) := fun H7 e7 cc dd => ev_ixN (j := pr.1) (ev_var rfl rfl) (ow6.go e7) (ev_var rfl (ix.mono e7)) (rows_at pr.1 (by omega))
      have hrow2 : ∀ H7, (m.hide p).R H6 H7 → ∀ cc dd, EvD (m.hide p) K (tOp (rIxL K) (tVar 4) (tVar 9)) [some v, some v2, some v3, some v4, some (.ref p), a, b, c, some x, some y, cc, dd] H7 (.nt (ys.map .int)) := fun H7 e7 cc dd => ev_ixN (j := pr.2) (ev_var rfl rfl) (ow6.go e7) (ev_var rfl (iy.mono e7)) (rows_at pr.2 t2)
      have hxl : xs.length ≤ 60 := tlen pr.1
      have hyl : ys.length ≤ 60 := tlen pr.2
      refine s_forE (ps := []) (ds := xs.map PyData.int) s6.ok (ev_ntd (hrow1 H6 (R.refl s6.ok) f g)) (fun n σ' H' => (∃ cc dd, σ' = [some v, some v2, some v3, some v4, some (.ref p), a, b, c, some x, some y, cc, dd]) ∧ ∀ j, j < n → xs.getD j 0 ∉ ys)
        (fun H7 e7 => ⟨⟨_, _, rfl⟩, fun j hj => absurd hj (Nat.not_lt_zero j)⟩) (fun H7 n dt vt σ' H0' H8 hdt e7 w7 r7 pv it => ?_) fun σ' H8 w7 pv => ?_
      · obtain ⟨⟨cc, dd, rfl⟩, hnot⟩ := pv
        have e68 : (m.hide p).R H6 H8 := R.trans (R.trans e7 w7) r7
        have hn : n < xs.length := by
          have := (List.getElem?_eq_some_iff.mp hdt).1
          rwa [List.length_map] at this
        have hx : xs[n]? = some (xs.getD n 0) := by
          rw [List.getD_eq_getElem?_getD, List.getElem?_eq_getElem hn]
          rfl
        rw [List.getElem?_map, hx] at hdt
        have hdt := (Option.some.inj hdt).symm
        subst hdt
        have s8 := s6.then_r e68
        refine s_when (b := decide (xs.getD n 0 ∈ ys)) s8.ok (et_test (ev_inT (ev_var rfl it) (ev_ntd (hrow2 H8 e68 _ _)))) (fun hb H9 e9 => ?_) fun hb H9 e9 => ⟨W.trans w7 (R.trans r7 e9), ⟨_, _, rfl⟩, fun j hj => ?_⟩
        · have hmem := of_decide_eq_true hb
          have hix := List.idxOf_lt_length_of_mem hmem
          have e69 := R.trans e68 e9
          have hyi : ys.idxOf (xs.getD n 0) < 60 := by omega
          refine s_ret e9.ok (ev_catN (ds := (rowFor pr.1 (n + 1)).map dAsk) (es := (rowFor pr.2 (ys.idxOf (xs.getD n 0) + 1)).map dAsk) (ev_ntd (ev_call (x := (pr.1, n + 1)) (ea_cons (ev_var rfl (ix.mono e69)) (ea_cons ((ev_ii (ev_var rfl (.int (n : Int))) ev_int).is (by rfl)) ea_nil)) ⟨by omega, by omega⟩)) (ev_call (x := (pr.2, ys.idxOf (xs.getD n 0) + 1)) (ea_cons (ev_var rfl (iy.mono e69)) (ea_cons ((ev_ii (ev_tindex (ns := ys) (z := xs.getD n 0) (j := ys.idxOf (xs.getD n 0)) (hrow2 H9 e69 _ _) (ev_var rfl (it.mono e9)) ?_ ?_) ev_int).is (by rfl)) ea_nil)) ⟨by omega, by omega⟩) ?_ ?_) fun vr H10 e10 i10 => q _ vr H10 ((s8.then_r e9).then_r e10).r (.inr ⟨rowFor pr.1 (n + 1) ++ rowFor pr.2 (ys.idxOf (xs.getD n 0) + 1), ?_, ?_⟩) i10.unhide
          · rw [List.getElem?_eq_getElem hix]
            exact congrArg some (List.getElem_idxOf hix)
          · intro j hj hc
            have hj' : j < ys.length := by omega
            rw [List.getElem?_eq_getElem hj'] at hc
            have := List.not_of_lt_findIdx (p := (· == xs.getD n 0)) (xs := ys) (i := j) hj
            rw [Option.some.inj hc] at this
            simp at this
          · intro z
            have := congrArg List.length z
            rw [List.length_map, rowFor_len _ _ (by omega)] at this
            simp at this
            omega
          · rw [List.length_map, List.length_map, rowFor_len _ _ (by omega), rowFor_len _ _ (by omega)]
            omega
          · rw [hbm]
            refine findSome_at (i := i) hpr (fun j b hj hb2 => hno j b hj hb2) ?_
            show conf pr.1 pr.2 xs ys = some _
            unfold conf
            refine findSome_at (i := n) (List.getElem?_range hn) (fun j b hj hb2 => ?_) ?_
            · have hbj : b = j := by
                rw [List.getElem?_range (by omega)] at hb2
                exact (Option.some.inj hb2).symm
              rw [hbj]
              exact if_neg (hnot j hj)
            · exact if_pos hmem
          · rw [List.map_append]
        · rcases Nat.lt_succ_iff_lt_or_eq.mp hj with h | h
          · exact hnot j h
          · rw [h]
            exact of_decide_eq_false hb
      · obtain ⟨⟨cc, dd, rfl⟩, hnot⟩ := pv
        refine ⟨m.hide p, s5.then_r w7, rfl, ⟨_, _, _, _, _, _, _, rfl⟩, ow6.go w7, fun j pr' hj hpr' => ?_⟩
        rcases Nat.lt_succ_iff_lt_or_eq.mp hj with h | h
        · exact hno j pr' h hpr'
        · rw [h, hpr] at hpr'
          have e := Option.some.inj hpr'
          subst e
          unfold conf
          refine findSome_non fun j b hb => ?_
          have hj2 : j < xs.length := by
            have := (List.getElem?_eq_some_iff.mp hb).1
            rwa [List.length_range] at this
          rw [List.getElem?_range hj2] at hb
          rw [← Option.some.inj hb]
          exact if_neg (hnot j (by rw [List.length_map]; exact hj2))
    · obtain ⟨rfl, ⟨a, b, c, d, e, f, g, rfl⟩, ow6, hno⟩ := pv
      have s6 : Stp m.lo m (m.hide p) H H6 := s4.trans s5
      refine s_ret (K := K) s6.ok ev_non fun vr H7 e7 i7 => q _ vr H7 (s6.then_r e7).r (.inl ⟨?_, rfl⟩) i7.unhide
      rw [hbm]
      refine findSome_non fun j pr hpr => hno j pr ?_ hpr
      rw [List.length_map]
      exact (List.getElem?_eq_some_iff.mp hpr).1
end
end K20
end
section
set_option linter.all false
set_option maxRecDepth 100000
set_option maxHeartbeats 2000000
set_option autoImplicit false
namespace K20
open PySem PySem.Spec PyProof.Rows L2 LamX NdefX PySem.W
section
variable {X : Cx} {pins : List (Addr × Obj)} {σ : L2.St} {H : Hp} {s : Shared} {a C dx : Addr} {fs : List (Str × V)} {f : Str} {v : V}
theorem getmethv_ok {pl : Sem Bool} {Q : Value × List Value → Shared → Prop} (I : Inv X pins σ H s) (e : H a = some (.ins C dx fs)) (c : Cls X.K C) (n : NoAttr X.K C f) (l : fs.lookup f = some v)
    (h : ∀ u s', Inv X pins σ H s' → L2.RelV v u → Q (u, []) s') : wpAny (model X.prog X.w) X.A (getMethod (.ref a) f pl) Q X.xe s := by
  obtain ⟨mA, O, r, _, _, _⟩ := ins_get I.hok e
  obtain ⟨od, J, hl⟩ := O.look
  exact PySem.W.method_usual I.kIn J (PySem.W.plainGet_of (c.get f)).1 (PySem.W.plainGet_of (c.get f)).2 n rfl (getattr_ok I e c n l h)
/-- o.m(..), m a field that holds a closure -/
theorem pe_callFld {R' : V → List V → Hp → VK → Prop} {pl : Sem Bool} {o e : Expr} {es : List Expr} {m : Str} {apos pos : Pos} {ta : TE} {t : TA} (Cr : CrV X R') (he : PE X o ta) (ha : PA X (e :: es) t)
    (hst : starEach (e :: es) X.env = (false, eval e X.env) :: starEach es X.env := by rfl) (hpl : (backTo pos (starEach es X.env)).any (·.1) = false := by rfl)
    (ht : eval (.Call (.Attribute o m apos) (e :: es) [] pos) X.env = (do
      let ov ← eval o X.env
      standAt apos.atName
      let (f, first) ← holding [ov] (getMethod ov m pl)
      callWith pos f first (backTo pos (starEach (e :: es) X.env)) (backToKw pos (keywordEach [] X.env))) := by rfl) :
    PE X (.Call (.Attribute o m apos) (e :: es) [] pos) (tCallV R' (tFld X.K ta m) t) := by
  refine ⟨fun pins s σ H Q I h => ?_⟩
  refine PySem.W.methodCall_KW (pl := pl) (thn (he.run pins s σ H _ I h) fun u s1 ⟨x, H1, I1, rx, a, C, dx, fs, v, ex, ea, c, n, l, ⟨f, ef, hf⟩, q⟩ => ?_) ht
  subst ex
  obtain rfl : u = Value.ref a := rx
  refine getmethv_ok I1 ea c n l fun uf s2 I2 rf => ?_
  subst ef
  obtain rfl : uf = Value.ref f := rf
  refine PySem.W.callWith_F (first := []) (fnHere_at I2 hf) (thn (ha.run pos pins s2 σ H1 _ I2 q) fun us s3 ⟨vs, H3, I3, r, q3⟩ => ?_) hst hpl
  obtain ⟨h1, h2⟩ := Cr pins s3 σ H3 f vs us Q I3 r q3
  exact ⟨fnHere_at I3 h1, h2⟩
theorem pe_mcal {pl : Sem Bool} {k : Nat} {Cn nm : Str} {ps : List Str} {sp : Sp} {o e : Expr} {es : List Expr} {apos pos : Pos} {ta : TE} {t : TA} (M : MCal X.prog X.w X.K X.mg X.base k Cn nm ps sp) (hm : Meth X.K (He.ga X.K Cn) nm (He.ma X.K (He.ga X.K Cn) nm)) (c : Cls X.K (He.ga X.K Cn)) (hr : Room k X.A) (he : PE X o ta) (ha : PA X (e :: es) t)
    (hst : starEach (e :: es) X.env = (false, eval e X.env) :: starEach es X.env := by rfl) (hpl : (backTo pos (starEach es X.env)).any (·.1) = false := by rfl)
    (ht : eval (.Call (.Attribute o nm apos) (e :: es) [] pos) X.env = (do
      let ov ← eval o X.env
      standAt apos.atName
      let (f, first) ← holding [ov] (getMethod ov nm pl)
      callWith pos f first (backTo pos (starEach (e :: es) X.env)) (backToKw pos (keywordEach [] X.env))) := by rfl) :
    PE X (.Call (.Attribute o nm apos) (e :: es) [] pos) (tMeth (He.ga X.K Cn) nm sp [] L2.E0 ta t) := by
  obtain ⟨fd, F, hb⟩ := M.ex
  exact pe_meth he c hm F hr hb .nil L2.pass0 ha hst hpl ht
theorem pe_mkC {k : Nat} {Cn : Str} {ps : List Str} {sp : Sp} {e : Expr} {es : List Expr} {p pos : Pos} {t : TA} (M : MCal X.prog X.w X.K X.mg X.base k Cn "__init__" ps sp) (hk : Mk X.K (He.ga X.K Cn) (He.ma X.K (He.ga X.K Cn) "__init__")) (hm : X.mg Cn = some (.ref (He.ga X.K Cn))) (hr : Room (k + 1) X.A) (hg : Gl X Cn) (ha : PA X (e :: es) t) (hdb : (Cn == ("__debug__" : Str)) = false := by decide)
    (he : starEach (e :: es) X.env = (false, eval e X.env) :: starEach es X.env := by rfl) (hpl : (backTo pos (starEach es X.env)).any (·.1) = false := by rfl) :
    PE X (.Call (.Name Cn p) (e :: es) [] pos) (tMake (He.ga X.K Cn) sp [] L2.E0 t) := by
  obtain ⟨fd, F, hb⟩ := M.ex
  exact pe_make hk F hr hg hm hb .nil L2.pass0 ha hdb he hpl
end
section
variable {m : Md} {K : PySem.W.Frag} {σ : L2.St} {H : Hp} {te : TE} {r : Dx} {v : V}
/-- a field of a hidden instance -/
theorem ev_ins {a C dx : Addr} {fs : List (Str × V)} {f : Str} (h : EvD m K te σ H (.v (.ref a))) (hp : a ∈ m.lo) (e : H a = some (.ins C dx fs)) (c : Cls K C) (n : NoAttr K C f) (l : fs.lookup f = some v) (i : Is m K H v r) : EvD m K (tFld K te f) σ H r := fun H1 e1 Q q => h H1 e1 _ fun x H2 e2 i2 => by
  obtain rfl : x = .ref a := i2
  have e12 := R.trans e1 e2
  exact ⟨a, C, dx, fs, v, rfl, by rw [R.lo e12 hp]; exact e, c, n, l, q v H2 e2 (i.mono e12)⟩
end
end K20
end
section
set_option linter.all false
set_option maxRecDepth 100000
set_option maxHeartbeats 2000000
set_option autoImplicit false
namespace K20
open PySem PySem.Spec PyProof.Rows L2 LamX NdefX PySem.W
/-! ### Leading -/
def LedFs (kv wv kk dv hv : V) : List (Str × V) := [("keeper", kv), ("web", wv), ("k", kk), ("done_so_far", dv), ("here", hv)]
structure Ldg where
  n : Nat
  nx : Nat → List Int → PyData
  ms : List Nat
  ts : List (Nat × Nat)
  k : Nat
def OwnL (m : Md) (K : PySem.W.Frag) (H : Hp) (a : Addr) (g : Ldg) (deeds : List Deed) (st : Stand) : Prop :=
  a ∈ m.lo ∧ ∃ dx kv wv kk dv hv, H a = some (.ins (He.ga K "Leading") dx (LedFs kv wv kk dv hv)) ∧ Is m K H kv (.kpr g.n g.nx) ∧ Is m K H wv (.web g.ms g.ts) ∧ Is m K H kk (.d (.int (g.k : Int))) ∧ Is m K H dv (.d (dDeeds deeds)) ∧ Is m K H hv (.d (dStand st))
section
variable {m : Md} {K : PySem.W.Frag} {H H' : Hp} {a : Addr} {g : Ldg} {deeds : List Deed} {st : Stand}
theorem OwnL.go (e : m.R H H') (h : OwnL m K H a g deeds st) : OwnL m K H' a g deeds st := by
  obtain ⟨hp, dx, kv, wv, kk, dv, hv, h1, i1, i2, i3, i4, i5⟩ := h
  exact ⟨hp, dx, kv, wv, kk, dv, hv, by rw [R.lo e hp]; exact h1, i1.mono e, i2.mono e, i3.mono e, i4.mono e, i5.mono e⟩
end
def dn (ms : List Nat) (s : List Deed × Stand) (d : Deed) : List Deed × Stand := (s.1 ++ [d], afterM ms s.2 d)
def stepM (g : Ldg) (s : List Deed × Stand) (a : Ask) : Str × (List Deed × Stand) :=
  if a.1 = false then ("kept", dn g.ms s (.back a.2))
  else if wordM g.ms g.ts g.k s.2 a.2 (g.nx a.2 (tagsOf s.1 a.2)) = "kept" ∨ wordM g.ms g.ts g.k s.2 a.2 (g.nx a.2 (tagsOf s.1 a.2)) = "barred" then (wordM g.ms g.ts g.k s.2 a.2 (g.nx a.2 (tagsOf s.1 a.2)), dn g.ms s (.give a.2 (tagI (g.nx a.2 (tagsOf s.1 a.2)))))
  else (wordM g.ms g.ts g.k s.2 a.2 (g.nx a.2 (tagsOf s.1 a.2)), s)
theorem word_int {ms : List Nat} {ts : List (Nat × Nat)} {k : Nat} {st : Stand} {r : Nat} {tag : PyData} (h : wordM ms ts k st r tag = "kept" ∨ wordM ms ts k st r tag = "barred") : ∃ t, tag = .int t := by
  cases tag with
  | int t => exact ⟨t, rfl⟩
  | none => exact absurd (show (("stuck" : Str) = "kept" ∨ ("stuck" : Str) = "barred") from h) (by decide)
  | _ => exact absurd (show (("odd" : Str) = "kept" ∨ ("odd" : Str) = "barred") from h) (by decide)
def ledM (g : Ldg) : List Ask → List Deed × Stand → List Deed × Str
  | [], s => (s.1, "kept")
  | a :: as, s => if (stepM g s a).1 = "kept" then ledM g as (stepM g s a).2 else ((stepM g s a).2.1, (stepM g s a).1)
section
variable {P : Program} {w : World} {K : PySem.W.Frag} {mg : Str → Option Value} {base : Heap}
def spLedInit (K : PySem.W.Frag) : Sp := fun vs H Q _ => ∃ (m : Md) (x dx : Addr) (H0 : Hp) (v1 v2 v3 : V) (g : Ldg), vs = [.ref x, v1, v2, v3] ∧ H = upd (upd H0 dx (.own x)) x (.ins (He.ga K "Leading") dx []) ∧ H0 x = none ∧ H0 dx = none ∧ dx ≠ x ∧ m.ok H0 ∧
  Is m K H0 v1 (.kpr g.n g.nx) ∧ Is m K H0 v2 (.web g.ms g.ts) ∧ Is m K H0 v3 (.d (.int (g.k : Int))) ∧ WebOk g.ms g.ts ∧ ∀ H', Stp m.lo m ((m.hide dx).hide x) H0 H' → OwnL ((m.hide dx).hide x) K H' x g [] (begunM g.ms) → Q .non H'
theorem sc_Leading_init : FnScope ["self", "keeper", "web", "k"] ["self", "keeper", "web", "k"] (defScope s_Leading_init) := ⟨rfl, rfl, rfl, by decide +kernel, rfl, by decide +kernel, by decide +kernel⟩
theorem ok_Leading_init (T : Top K mg) : MCal P w K mg base 2 "Leading" "__init__" ["self", "keeper", "web", "k"] (spLedInit K) := by
  have G := T.G
  refine T.l_init.cal sc_Leading_init (fun _ _ _ _ _ _ us hl => match us, hl with | [_, _, _, _], _ => rfl) (fun vs H Q E h => by obtain ⟨_, _, _, _, _, _, _, _, rfl, _⟩ := h; rfl) (fun f cdv A outer s H0 E hr => ?_)
  refine ⟨_, (pss_cons (ps_fld (pv 0) (pv 1) rfl)
    (pss_cons (ps_fld (pv 0) (pv 2) rfl)
    (pss_cons (ps_fld (pv 0) (pv 3) rfl)
    (pss_cons (ps_fld (pv 0) (pe_tup pa_nil) rfl)
    (pss_one (ps_fld (pv 0) (pe_cal (ok_begun T) (hr.mono (by decide)) (by rfl) (pa_cons (pv 2) pa_nil)) rfl)))))), ?_⟩
  rintro H vs Q ⟨m, x, dx, H1, v1, v2, v3, g, rfl, rfl, hx, hdx, hne, k, j1, j2, j3, hw, q⟩
  have k1 : (m.hide dx).ok (upd H1 dx (.own x)) := hide_ok k hdx
  have hx1 : upd H1 dx (.own x) x = none := by rw [upd_ne (Ne.symm hne)]; exact hx
  have s1 : Stp m.lo m ((m.hide dx).hide x) H1 (upd (upd H1 dx (.own x)) x (.ins (He.ga K "Leading") dx [])) := (Stp.hide k hdx).trans (Stp.hide k1 hx1)
  have hB : x ∉ m.lo := fun z => by
    obtain ⟨o, ho, _⟩ := k.lo x z
    rw [hx] at ho
    cases ho
  have hin : x ∈ ((m.hide dx).hide x).lo := List.mem_cons_self ..
  have put : ∀ {H2 : Hp} {o : HO}, Stp m.lo m ((m.hide dx).hide x) H1 H2 → isExt o = false → isTbl o = false → Stp m.lo m ((m.hide dx).hide x) H1 (upd H2 x o) := fun s ho ht => s.trans (Stp.put s.ok hin hB ht (nc_of ho))
  have s2 := put (o := .ins (He.ga K "Leading") dx [("keeper", v1)]) s1 rfl rfl
  have s3 := put (o := .ins (He.ga K "Leading") dx [("keeper", v1), ("web", v2)]) s2 rfl rfl
  have s4 := put (o := .ins (He.ga K "Leading") dx [("keeper", v1), ("web", v2), ("k", v3)]) s3 rfl rfl
  refine ⟨v1, rfl, .ref x, rfl, x, _, dx, [], rfl, upd_same, G.cL, G.nKeeper, by decide, v2, rfl, .ref x, rfl, x, _, dx, _, rfl, upd_same, G.cL, G.nWeb, (by show 1 < 1000; decide), v3, rfl, .ref x, rfl, x, _, dx, _, rfl, upd_same, G.cL, G.nK, (by show 2 < 1000; decide), ?_⟩
  show (sFld K (tVar 0) (tTup tNil) "done_so_far") _ _ _
  refine (ev_tup (K := K) (ds := []) ea_nil : EvD ((m.hide dx).hide x) K (tTup tNil) (start ["self", "keeper", "web", "k"] [.ref x, v1, v2, v3]) _ (.d (.tuple []))) _ (R.refl s4.ok) _ fun vd H5 e5 id => ?_
  refine ⟨.ref x, rfl, x, _, dx, _, rfl, by rw [R.lo e5 hin]; exact upd_same, G.cL, G.nDone, (by show 3 < 1000; decide), ?_⟩
  have s5 := s4.then_r e5
  have s6 := put (o := .ins (He.ga K "Leading") dx [("keeper", v1), ("web", v2), ("k", v3), ("done_so_far", vd)]) s5 rfl rfl
  have jd : Is ((m.hide dx).hide x) K (upd H5 x (.ins (He.ga K "Leading") dx [("keeper", v1), ("web", v2), ("k", v3), ("done_so_far", vd)])) vd (.d (dDeeds [])) := (Stp.put (B := m.lo) s5.ok hin hB : Stp m.lo _ _ H5 _).fix id rfl
  refine (ev_call (x := (g.ms, g.ts)) (ea_cons (ev_var rfl (s6.is j2)) ea_nil) hw.n5 : EvD ((m.hide dx).hide x) K (tCall (spBegun K) [] L2.E0 (tCons (tVar 2) tNil)) (start ["self", "keeper", "web", "k"] [.ref x, v1, v2, v3]) _ (.d (dStand (begunM g.ms)))) _ (R.refl s6.ok) _ fun vh H7 e7 ih => ?_
  refine ⟨.ref x, rfl, x, _, dx, _, rfl, by rw [R.lo e7 hin]; exact upd_same, G.cL, G.nHere, (by show 4 < 1000; decide), ?_⟩
  have s7 := s6.then_r e7
  have p8 : Stp m.lo ((m.hide dx).hide x) ((m.hide dx).hide x) H7 (upd H7 x (.ins (He.ga K "Leading") dx (LedFs v1 v2 v3 vd vh))) := Stp.put s7.ok hin hB
  have s8 := s7.trans p8
  exact q _ s8 ⟨hin, dx, v1, v2, v3, vd, vh, upd_same, s8.is j1, s8.is j2, s8.is j3, p8.fix (jd.mono e7) rfl, p8.fix ih rfl⟩
/-! done -/
def spDone (K : PySem.W.Frag) : Sp := fun vs H Q _ => ∃ (m : Md) (a : Addr) (v2 : V) (g : Ldg) (s : List Deed × Stand) (d : Deed), vs = [.ref a, v2] ∧ m.ok H ∧ OwnL m K H a g s.1 s.2 ∧ Is m K H v2 (.d (dDeed d)) ∧ WebOk g.ms g.ts ∧ StOk g.ms s.2 ∧ roomD d < g.ms.length ∧ s.1.length ≤ 10000 ∧
  ∀ H', m.W [a] H H' → OwnL m K H' a g (dn g.ms s d).1 (dn g.ms s d).2 → Q .non H'
theorem sc_Leading_done : FnScope ["self", "deed"] ["self", "deed"] (defScope s_Leading_done) := ⟨rfl, rfl, rfl, by decide +kernel, rfl, by decide +kernel, by decide +kernel⟩
theorem ok_Leading_done (T : Top K mg) : MCal P w K mg base 3 "Leading" "done" ["self", "deed"] (spDone K) := by
  have G := T.G
  refine T.l_doneD.cal sc_Leading_done (fun _ _ _ _ _ _ us hl => match us, hl with | [_, _], _ => rfl) (fun vs H Q E h => by obtain ⟨_, _, _, _, _, _, rfl, _⟩ := h; rfl) (fun f cdv A outer s H0 E hr => ?_)
  refine ⟨_, (pss_cons (ps_fld (pv 0) (pe_op op_catA (pe_fld (pv 0) rfl) (pe_tup (pa_cons (pv 1) pa_nil))) rfl)
    (pss_one (ps_fld (pv 0) (pe_cal (ok_raw_after T) (hr.mono (by decide)) (by rfl) (pa_cons (pe_fld (pv 0) rfl) (pa_cons (pe_fld (pv 0) rfl) (pa_cons (pv 1) pa_nil)))) rfl))), ?_⟩
  rintro H vs Q ⟨m, a, v2, g, ⟨deeds, st⟩, d, rfl, k, ow, i2, hw, hs, hd, hz, q⟩
  simp only at ow hs hz q
  obtain ⟨hp, dx, kv, wv, kk, dv, hv, h1, j1, j2, j3, j4, j5⟩ := ow
  refine (ev_catT (ds := deeds.map dDeed) (es := [dDeed d]) (ev_ins (ev_var (r := .v (.ref a)) rfl rfl) hp h1 G.cL G.nDone rfl j4) (ev_tup (ds := [dDeed d]) (ea_cons (ev_var rfl i2) ea_nil)) (by rw [List.length_map]; simp only [List.length_singleton]; omega) : EvD m K (tOp (rCatA K) (tFld K (tVar 0) "done_so_far") (tTup (tCons (tVar 1) tNil))) (start ["self", "deed"] [.ref a, v2]) H (.d (.tuple (deeds.map dDeed ++ [dDeed d])))) H (R.refl k) _ fun vd H2 e2 id => ?_
  refine ⟨.ref a, rfl, a, _, dx, _, rfl, by rw [R.lo e2 hp]; exact h1, G.cL, G.nDone, (by show 5 < 1000; decide), ?_⟩
  have w3 : m.W [a] H2 (upd H2 a (.ins (He.ga K "Leading") dx (LedFs kv wv kk vd hv))) := W.put e2.ok hp (List.mem_cons_self ..)
  have h3 : upd H2 a (.ins (He.ga K "Leading") dx (LedFs kv wv kk vd hv)) a = some (.ins (He.ga K "Leading") dx (LedFs kv wv kk vd hv)) := upd_same
  refine (ev_call (x := ((g.ms, g.ts), st, d)) (ea_cons (ev_ins (ev_var (r := .v (.ref a)) rfl rfl) hp h3 G.cL G.nWeb rfl ((j2.mono e2).w w3)) (ea_cons (ev_ins (ev_var (r := .v (.ref a)) rfl rfl) hp h3 G.cL G.nHere rfl ((j5.mono e2).w w3)) (ea_cons (ev_var rfl ((i2.mono e2).w w3)) ea_nil))) ⟨hw, hs, hd⟩ : EvD m K (tCall (spAfter K) [] L2.E0 (tCons (tFld K (tVar 0) "web") (tCons (tFld K (tVar 0) "here") (tCons (tVar 1) tNil)))) (start ["self", "deed"] [.ref a, v2]) _ (.d (dStand (afterM g.ms st d)))) _ (R.refl w3.ok) _ fun vh H4 e4 ih => ?_
  refine ⟨.ref a, rfl, a, _, dx, _, rfl, by rw [R.lo e4 hp]; exact upd_same, G.cL, G.nHere, (by show 5 < 1000; decide), ?_⟩
  have w5 : m.W [a] H4 (upd H4 a (.ins (He.ga K "Leading") dx (LedFs kv wv kk vd vh))) := W.put e4.ok hp (List.mem_cons_self ..)
  have wa : m.W [a] H _ := W.trans (W.trans (W.trans (R.w e2) w3) (R.w e4)) w5
  have hdd : dDeeds (deeds ++ [d]) = .tuple (deeds.map dDeed ++ [dDeed d]) := by
    unfold dDeeds
    rw [List.map_append]
    rfl
  refine q _ wa ⟨hp, dx, kv, wv, kk, vd, vh, upd_same, j1.w wa, j2.w wa, j3.w wa, ?_, ih.w w5⟩
  show Is m K _ vd (.d (dDeeds (deeds ++ [d])))
  rw [hdd]
  exact ((id.w w3).mono e4).w w5
theorem ev_done {m : Md} {σ : L2.St} {H : Hp} {te tb : TE} {a : Addr} {g : Ldg} {s : List Deed × Stand} {d : Deed} {D : Ends} (k : m.ok H) (h : EvD m K te σ H (.v (.ref a))) (ow : OwnL m K H a g s.1 s.2) (hv : EvD m K tb σ H (.d (dDeed d))) (hw : WebOk g.ms g.ts) (hs : StOk g.ms s.2) (hd : roomD d < g.ms.length) (hz : s.1.length ≤ 10000)
    (q : ∀ H', m.W [a] H H' → OwnL m K H' a g (dn g.ms s d).1 (dn g.ms s d).2 → D.nx σ H') : tDrop (tMeth (He.ga K "Leading") "done" (spDone K) [] L2.E0 te (tCons tb tNil)) D σ H := h H (R.refl k) _ fun x H2 e2 i2 => by
  obtain rfl : x = .ref a := i2
  obtain ⟨hp, dx, kv, wv, kk, dv, hv', h1, j⟩ := id (ow.go e2)
  exact ⟨a, dx, _, rfl, h1, rfl, hv H2 e2 _ fun vd H3 e3 i3 => ⟨m, a, vd, g, s, d, rfl, e3.ok, ow.go (R.trans e2 e3), i3, hw, hs, hd, hz, fun H' w' o' => q H' (W.trans (R.w (R.trans e2 e3)) w') o'⟩⟩
/-! answer -/
def spAnswer (K : PySem.W.Frag) : Sp := fun vs H Q _ => ∃ (m : Md) (a : Addr) (v2 : V) (g : Ldg) (s : List Deed × Stand) (ask : Ask), vs = [.ref a, v2] ∧ m.ok H ∧ OwnL m K H a g s.1 s.2 ∧ Is m K H v2 (.d (dAsk ask)) ∧ WebOk g.ms g.ts ∧ StOk g.ms s.2 ∧ ask.2 < g.ms.length ∧ g.n = g.ms.length ∧ s.1.length ≤ 10000 ∧
  ∀ v H', m.W [a] H H' → OwnL m K H' a g (stepM g s ask).2.1 (stepM g s ask).2.2 → Is m K H' v (.d (.str (stepM g s ask).1)) → Q v H'
theorem sc_Leading_answer : FnScope ["self", "ask", "tag", "word"] ["self", "ask"] (defScope s_Leading_answer) := ⟨rfl, rfl, rfl, by decide +kernel, rfl, by decide +kernel, by decide +kernel⟩
theorem ok_Leading_answer (T : Top K mg) : MCal P w K mg base 6 "Leading" "answer" ["self", "ask"] (spAnswer K) := by
  have G := T.G
  refine T.l_answerD.cal sc_Leading_answer (fun _ _ _ _ _ _ us hl => match us, hl with | [_, _], _ => rfl) (fun vs H Q E h => by obtain ⟨_, _, _, _, _, _, rfl, _⟩ := h; rfl) (fun f cdv A outer s H0 E hr => ?_)
  refine ⟨_, (pss_cons (ps_if (pt_cmpR op_eq (pe_ix ix_tup (pv 1) pe_int (fun _ _ => rfl)) pe_str (nomark _)) (pss_cons (ps_expr (pe_mcal (ok_Leading_done T) T.l_done G.cL (hr.mono (by decide)) (pv 0) (pa_cons (pv 1) pa_nil)))
    (pss_one (ps_ret pe_str))) pss_nil)
    (pss_cons (ps_set (i := 2) sc_Leading_answer.nd rfl (Or.inl rfl) (pe_callFld (cr_kpr T (hr.mono (by decide)) rfl) (pv 0) (pa_cons (pe_fld (pv 0) rfl) (pa_cons (pe_fld (pv 0) rfl) (pa_cons (pe_fld (pv 0) rfl) (pa_cons (pe_ix ix_tup (pv 1) pe_int (fun _ _ => rfl)) pa_nil))))))
    (pss_cons (ps_set (i := 3) sc_Leading_answer.nd rfl (Or.inl rfl) (pe_cal (ok_word_of T) (hr.mono (by decide)) (by rfl) (pa_cons (pe_fld (pv 0) rfl) (pa_cons (pe_fld (pv 0) rfl) (pa_cons (pe_fld (pv 0) rfl) (pa_cons (pe_ix ix_tup (pv 1) pe_int (fun _ _ => rfl)) (pa_cons (pv 2) pa_nil)))))))
    (pss_cons (ps_if (pt_cmpR op_in_seq (pv 3) (pe_tup (pa_cons pe_str (pa_cons pe_str pa_nil))) (by rfl)) (pss_one (ps_expr (pe_mcal (ok_Leading_done T) T.l_done G.cL (hr.mono (by decide)) (pv 0) (pa_cons (pe_op op_catA (pv 1) (pe_tup (pa_cons (pv 2) pa_nil))) pa_nil)))) pss_nil)
    (pss_one (ps_ret (pv 3))))))), ?_⟩
  rintro H vs Q ⟨m, a, v2, g, s, ⟨gv, r⟩, rfl, k, ow, i2, hw, hs, hd, hn, hz, q⟩
  have hd : r < g.ms.length := hd
  have i2 : Is m K H v2 (.d (.tuple [.str (word gv), .int (r : Int)])) := i2
  cases gv with
  | false =>
    refine q_when (b := true) k ((et_test (ev_eqS (i := word false) (j := "back") (ev_ixT (ev_var rfl i2) ev_int rfl) ev_str)).is rfl) (fun _ H1 e1 => ?_) fun z => absurd z (by decide)
    have i2' : Is m K H1 v2 (.d (dDeed (.back r))) := i2.mono e1
    show tDrop _ _ _ _
    refine ev_done (g := g) (s := s) (d := .back r) e1.ok (ev_var (r := .v (.ref a)) rfl rfl) (ow.go e1) (ev_var rfl i2') hw hs hd hz fun H2 w2 o2 => ?_
    exact s_ret (te := tC (.str "kept")) (D := { nx := fun _ H' => Q .non H', rt := Q }) (σ := start ["self", "ask", "tag", "word"] [.ref a, v2]) w2.ok ev_str fun v H3 e3 i3 => q v H3 (W.trans (W.trans (R.w e1) w2) (R.w e3)) (o2.go e3) i3
  | true =>
    refine q_when (b := false) k ((et_test (ev_eqS (i := word true) (j := "back") (ev_ixT (ev_var rfl i2) ev_int rfl) ev_str)).is rfl) (fun z => absurd z (by decide)) fun _ H1 e1 => ?_
    obtain ⟨hp, dx, kv, wv, kk, dv, hv, h1, j1, j2, j3, j4, j5⟩ := id (ow.go e1)
    let tag := g.nx r (tagsOf s.1 r)
    have fld : ∀ {H2 : Hp} {f : Str} {v : V} {rr : Dx} {σ2 : L2.St}, m.R H1 H2 → σ2[0]? = some (some (.ref a)) → NoAttr K (He.ga K "Leading") f → (LedFs kv wv kk dv hv).lookup f = some v → Is m K H1 v rr → EvD m K (tFld K (tVar 0) f) σ2 H2 rr := fun e2 h0 n l i => ev_ins (ev_var (r := .v (.ref a)) h0 rfl) hp (by rw [R.lo e2 hp]; exact h1) G.cL n l (i.mono e2)
    refine q_asg e1.ok (ev_callK (n := g.n) (nx := g.nx) (r := r) (deeds := s.1) (fld (R.refl e1.ok) rfl G.nKeeper rfl j1) (by rw [hn]; exact hd) hz (ea_cons (fld (R.refl e1.ok) rfl G.nWeb rfl j2) (ea_cons (fld (R.refl e1.ok) rfl G.nK rfl j3) (ea_cons (fld (R.refl e1.ok) rfl G.nDone rfl j4) (ea_cons (ev_ixT (ev_var rfl (i2.mono e1)) ev_int rfl) ea_nil))))) fun vt H2 e2 it => ?_
    have e12 := R.trans e1 e2
    refine q_asg e2.ok (ev_call (x := ((g.ms, g.ts), g.k, s.2, r, tag)) (ea_cons (fld e2 rfl G.nWeb rfl j2) (ea_cons (fld e2 rfl G.nK rfl j3) (ea_cons (fld e2 rfl G.nHere rfl j5) (ea_cons (ev_ixT (ev_var rfl (i2.mono e12)) ev_int rfl) (ea_cons (ev_var rfl it) ea_nil))))) ⟨hw, hs, hd⟩) fun vw H3 e3 iw => ?_
    have e13 := R.trans e12 e3
    have iw : Is m K H3 vw (.d (.str (wordM g.ms g.ts g.k s.2 r tag))) := iw
    refine q_when (b := decide (wordM g.ms g.ts g.k s.2 r tag = "kept" ∨ wordM g.ms g.ts g.k s.2 r tag = "barred")) e3.ok (et_test (ev_inS (ev_var rfl iw) (ev_tup (ds := [.str "kept", .str "barred"]) (ea_cons ev_str (ea_cons ev_str ea_nil))))) (fun hb H4 e4 => ?_) fun hb H4 e4 => ?_
    · have hb := of_decide_eq_true hb
      obtain ⟨t, ht⟩ := word_int hb
      have hst : stepM g s (true, r) = (wordM g.ms g.ts g.k s.2 r tag, dn g.ms s (.give r t)) := by
        unfold stepM
        rw [if_neg (by show ¬ (true = false); decide)]
        refine (if_pos hb).trans ?_
        show (wordM g.ms g.ts g.k s.2 r tag, dn g.ms s (.give r (tagI tag))) = _
        rw [ht]
        rfl
      have e14 := R.trans e13 e4
      have it4 := (it.mono e3).mono e4
      rw [show g.nx r (tagsOf s.1 r) = .int t from ht] at it4
      show tDrop _ _ _ _
      refine ev_done (g := g) (s := s) (d := .give r t) e4.ok (ev_var (r := .v (.ref a)) rfl rfl) (ow.go e14) ((ev_catT (ds := [.str (word true), .int (r : Int)]) (es := [.int t]) (ev_var rfl (i2.mono e14)) (ev_tup (ds := [.int t]) (ea_cons (ev_var rfl it4) ea_nil)) (by simp)).is rfl) hw hs hd hz fun H5 w5 o5 => ?_
      refine s_ret w5.ok (ev_var rfl ((iw.mono e4).w w5)) fun v H6 e6 i6 => q v H6 (W.trans (W.trans (R.w e14) w5) (R.w e6)) ?_ ?_
      · rw [hst]
        exact o5.go e6
      · rw [hst]
        exact i6
    · have hb := of_decide_eq_false hb
      have e14 := R.trans e13 e4
      have hst : stepM g s (true, r) = (wordM g.ms g.ts g.k s.2 r tag, s) := by
        unfold stepM
        rw [if_neg (by show ¬ (true = false); decide)]
        exact if_neg hb
      refine s_ret e4.ok (ev_var rfl (iw.mono e4)) fun v H6 e6 i6 => q v H6 (R.w (R.trans e14 e6)) ?_ ?_
      · rw [hst]
        exact ow.go (R.trans e14 e6)
      · rw [hst]
        exact i6
end
end K20
end
section
set_option linter.all false
set_option maxRecDepth 100000
set_option maxHeartbeats 2000000
set_option autoImplicit false
namespace K20
open PySem PySem.Spec PyProof.Rows L2 LamX NdefX PySem.W
theorem rowOk_lt {ms : List Nat} : ∀ {l : List Ask} {st : Stand}, rowOkFrom ms st l = true → ∀ a ∈ l, a.2 < ms.length
  | [], _, _, _, h => by cases h
  | a :: l, st, h, b, hb => by
    have h' : (askOk ms st a && rowOkFrom ms (afterM ms st (askDeed a)) l) = true := h
    rw [Bool.and_eq_true] at h'
    rcases List.mem_cons.mp hb with rfl | hb
    · have h1 := h'.1
      unfold askOk at h1
      rw [Bool.and_eq_true, decide_eq_true_eq] at h1
      exact h1.1
    · exact rowOk_lt h'.2 b hb
theorem step_ok {g : Ldg} (hm : ∀ m ∈ g.ms, m ≤ 3) {s : List Deed × Stand} (h : StOk g.ms s.2) (a : Ask) : StOk g.ms (stepM g s a).2.2 ∧ (stepM g s a).2.1.length ≤ s.1.length + 1 := by
  have hd : ∀ d, StOk g.ms (dn g.ms s d).2 ∧ (dn g.ms s d).1.length ≤ s.1.length + 1 := fun d => ⟨after_ok hm h d, by
    show (s.1 ++ [d]).length ≤ _
    rw [List.length_append, List.length_singleton]
    exact Nat.le_refl _⟩
  unfold stepM
  split
  · exact hd _
  · split
    · exact hd _
    · exact ⟨h, Nat.le_succ _⟩
theorem q_mk {m : Md} {K : PySem.W.Frag} {σ : L2.St} {H : Hp} {i : Nat} {C : Addr} {sp : Sp} {E : XK} {tA : TA} {ds : List Dx} {D : Ends} {tz : TS} (k : m.ok H) (ha : EvA m K tA σ H ds)
    (q : ∀ vs H1, m.R H H1 → IsAll m K H1 vs ds → ∀ x dx, H1 x = none → H1 dx = none → dx ≠ x → sp (.ref x :: (vs ++ [])) (upd (upd H1 dx (.own x)) x (.ins C dx [])) (fun v H2 => v = .non ∧ tz D (σ.set i (some (.ref x))) H2) E) : tSeq (tAsg (tMake C sp [] E tA) (gName i)) tz D σ H := ha H (R.refl k) _ fun vs H1 e i => q vs H1 e i
section
variable {P : Program} {w : World} {K : PySem.W.Frag} {mg : Str → Option Value} {base : Heap}
abbrev spLed (K : PySem.W.Frag) : Sp := SpF K (fun a : Ldg × List Ask => [.kpr a.1.n a.1.nx, .web a.1.ms a.1.ts, .d (.int (a.1.k : Int)), .d (dRow a.2)])
  (fun a => WebOk a.1.ms a.1.ts ∧ rowOk a.1.ms a.2 = true ∧ a.1.n = a.1.ms.length ∧ 1 ≤ a.1.k ∧ a.1.k ≤ 200 ∧ a.2.length ≤ 1000)
  (fun a => .d (.tuple [dDeeds (ledM a.1 a.2 ([], begunM a.1.ms)).1, .str (ledM a.1 a.2 ([], begunM a.1.ms)).2]))
theorem sc_led : FnScope ["keeper", "web", "k", "row", "index", "leading", "ask", "word"] ["keeper", "web", "k", "row"] (defScope s_led) := ⟨rfl, rfl, rfl, by decide +kernel, rfl, by decide +kernel, by decide +kernel⟩
theorem ok_led (T : Top K mg) : Cal P w K mg base 7 "led" ["keeper", "web", "k", "row"] (spLed K) := by
  have G := T.G
  refine T.d_led.cal sc_led (fun _ _ _ _ _ _ us hl => match us, hl with | [_, _, _, _], _ => rfl) (fun _ => rfl) (fun f cdv A outer s H0 E hr => ?_)
  refine ⟨_, (pss_cons (ps_expr (pe_cal (ok_check_tags T) (hr.mono (by decide)) (by rfl) (pa_cons (pv 2) pa_nil)))
    (pss_cons (ps_set (i := 4) sc_led.nd rfl (Or.inl rfl) (pe_cal (ok_first_none T) (hr.mono (by decide)) (by rfl) (pa_cons (pv 1) (pa_cons (pv 3) pa_nil))))
    (pss_cons (ps_if (pt_cmpR op_notN (pv 4) pe_non (nomark _)) (pss_one ps_never) pss_nil)
    (pss_cons (ps_set (i := 5) sc_led.nd rfl (Or.inl rfl) (pe_mkC (ok_Leading_init T) T.l_mk T.l_glo (hr.mono (by decide)) (by rfl) (pa_cons (pv 0) (pa_cons (pv 1) (pa_cons (pv 2) pa_nil)))))
    (pss_cons (ps_for PassesOwn.never rfl (pi_tup (pv 3)) (pg_name (i := 6) sc_led.nd rfl (Or.inl rfl))
    (pss_cons (ps_set (i := 7) sc_led.nd rfl (Or.inl rfl) (pe_mcal (ok_Leading_answer T) T.l_answer G.cL (hr.mono (by decide)) (pv 5) (pa_cons (pv 6) pa_nil)))
    (pss_one (ps_if (pt_cmpR op_ne (pv 7) pe_str (nomark _)) (pss_one (ps_ret (pe_tup (pa_cons (pe_fld (pv 5) rfl) (pa_cons (pv 7) pa_nil))))) pss_nil))))
    (pss_one (ps_ret (pe_tup (pa_cons (pe_fld (pv 5) rfl) (pa_cons pe_str pa_nil)))))))))), ?_⟩
  intro m ⟨g, row⟩ H vs Q k i ⟨hw, hrow, hn, hk1, hk2, hz⟩ q
  obtain ⟨v, v2, v3, v4, rfl, i1, i2, i3, i4⟩ := isAll4 (show IsAll m K H vs [.kpr g.n g.nx, .web g.ms g.ts, .d (.int (g.k : Int)), .d (dRow row)] from i)
  have hw : WebOk g.ms g.ts := hw
  have hrow : rowOk g.ms row = true := hrow
  have hn : g.n = g.ms.length := hn
  have hk1 : 1 ≤ g.k := hk1
  have hk2 : g.k ≤ 200 := hk2
  have hz : row.length ≤ 1000 := hz
  replace q : ∀ v H', m.R H H' → Is m K H' v (.d (.tuple [dDeeds (ledM g row ([], begunM g.ms)).1, .str (ledM g row ([], begunM g.ms)).2])) → Q v H' := fun v H' e i => q _ v H' e rfl i
  refine q_drop k (ev_call (x := PyData.int (g.k : Int)) (ea_cons (ev_var rfl i3) ea_nil) (within_ok (by omega) (by omega))) fun H1 e1 => ?_
  refine q_asg e1.ok (ev_call (x := ((g.ms, g.ts), row)) (ea_cons (ev_var rfl (i2.mono e1)) (ea_cons (ev_var rfl (i4.mono e1)) ea_nil)) ⟨hw, hrow⟩) fun v5 H2 e2 i5 => ?_
  have e12 := R.trans e1 e2
  refine q_when (b := false) e2.ok ((et_test (ev_notN (a := .none) (ev_var rfl i5))).is rfl) (fun z => absurd z Bool.false_ne_true) fun _ H3 e3 => ?_
  have e13 := R.trans e12 e3
  refine q_mk e3.ok (ea_cons (ev_var rfl (i1.mono e13)) (ea_cons (ev_var rfl (i2.mono e13)) (ea_cons (ev_var rfl (i3.mono e13)) ea_nil))) fun vs' H4 e4 ia => ?_
  obtain ⟨u1, u2, u3, rfl, a1, a2, a3⟩ := isAll3 ia
  have e14 := R.trans e13 e4
  intro x dx hx hdx hne
  refine ⟨m, x, dx, H4, u1, u2, u3, g, rfl, rfl, hx, hdx, hne, e4.ok, a1, a2, a3, hw, fun H5 s5 o5 => ⟨rfl, ?_⟩⟩
  have hB : x ∉ m.lo := fun z => by
    obtain ⟨o, ho, _⟩ := e4.ok.lo x z
    rw [hx] at ho
    cases ho
  have s05 : Stp m.lo m ((m.hide dx).hide x) H H5 := (Stp.of_r e14).trans s5
  have stp : ∀ {H6 : Hp}, ((m.hide dx).hide x).W [x] H5 H6 → Stp m.lo m ((m.hide dx).hide x) H H6 := fun {H6} w6 => s05.trans ⟨w6.ok, w6.ex, w6.dom, fun _ h => h, fun _ h n => absurd h n, fun p hp hm => w6.keep p hm (by simp; exact fun z => hB (z ▸ hp)), rfl, rfl⟩
  have un : ∀ {H6 : Hp} {v : V} {d : PyData}, ((m.hide dx).hide x).W [x] H5 H6 → Is ((m.hide dx).hide x) K H6 v (.d d) → m.R H H6 ∧ Is m K H6 v (.d d) := fun w6 i => ⟨(stp w6).r, (Is.unhide (p := dx) (Is.unhide (p := x) i))⟩
  have fin : ∀ {H6 : Hp} {σ : L2.St} {s : List Deed × Stand} {te : TE} {word : Str}, ((m.hide dx).hide x).W [x] H5 H6 → OwnL ((m.hide dx).hide x) K H6 x g s.1 s.2 → σ[5]? = some (some (.ref x)) → EvD ((m.hide dx).hide x) K te σ H6 (.d (.str word)) → (∀ v H7, m.R H H7 → Is m K H7 v (.d (.tuple [dDeeds s.1, .str word])) → Q v H7) →
      tRet (tTup (tCons (tFld K (tVar 5) "done_so_far") (tCons te tNil))) { nx := fun _ H' => Q .non H', rt := Q } σ H6 := fun {H6 σ s te word} w6 o6 h5 hte qq => by
    obtain ⟨hp, dx', kv, wv, kk, dv, hv, h1, j1, j2, j3, j4, j5⟩ := o6
    refine s_ret w6.ok (ev_tup (ds := [dDeeds s.1, .str word]) (ea_cons (ev_ins (ev_var (r := .v (.ref x)) h5 rfl) hp h1 G.cL G.nDone rfl j4) (ea_cons hte ea_nil))) fun vr H7 e7 i7 => ?_
    obtain ⟨r1, r2⟩ := un (W.trans w6 (R.w e7)) i7
    exact qq vr H7 r1 r2
  refine q_forT (ps := [x]) (ds := row.map dAsk) s05.ok (ev_var (r := .d (dRow row)) rfl (s05.is i4)) (fun i σ' H' => (∃ a b, σ' = [some v, some v2, some v3, some v4, some v5, some (.ref x), a, b]) ∧ ∃ s : List Deed × Stand, OwnL ((m.hide dx).hide x) K H' x g s.1 s.2 ∧ StOk g.ms s.2 ∧ s.1.length ≤ i ∧ ledM g row ([], begunM g.ms) = ledM g (row.drop i) s)
    (fun H6 e6 => ⟨⟨_, _, rfl⟩, ([], begunM g.ms), o5.go e6, begun_ok _, Nat.le_refl _, rfl⟩) (fun H6 i d vd σ' H7 hd e6 w7 pv ivd => ?_) fun σ' H7 w7 pv => ?_
  · obtain ⟨⟨a, b, rfl⟩, s, os, hs, hl, hled⟩ := pv
    rw [List.getElem?_map] at hd
    obtain ⟨ask, hask, rfl⟩ := Option.map_eq_some_iff.mp hd
    have hlt := (List.getElem?_eq_some_iff.mp hask).1
    have hdr : row.drop i = ask :: row.drop (i + 1) := by
      rw [List.drop_eq_getElem_cons hlt, (List.getElem?_eq_some_iff.mp hask).2]
    rw [hdr] at hled
    have hled : ledM g row ([], begunM g.ms) = if (stepM g s ask).1 = "kept" then ledM g (row.drop (i + 1)) (stepM g s ask).2 else ((stepM g s ask).2.1, (stepM g s ask).1) := hled
    obtain ⟨hp, dx', kv, wv, kk, dv, hv, h1, j⟩ := id os
    refine ⟨.ref x, rfl, x, dx', _, rfl, h1, rfl, vd, rfl, _, x, vd, g, s, ask, rfl, w7.ok, os, ivd, hw, hs, rowOk_lt hrow ask (List.mem_of_getElem? hask), hn, by omega, fun vw H8 w8 o8 iw => ?_⟩
    have w58 : ((m.hide dx).hide x).W [x] H5 H8 := W.trans (W.trans (R.w e6) w7) w8
    obtain ⟨hso, hsl⟩ := step_ok hw.mem hs ask
    refine s_when (b := !decide ((stepM g s ask).1 = "kept")) w8.ok (et_test (ev_neS (ev_var rfl iw) ev_str)) (fun hb H9 e9 => ?_) fun hb H9 e9 => ⟨W.trans (W.trans w7 w8) (R.w e9), ⟨_, _, rfl⟩, (stepM g s ask).2, o8.go e9, hso, by omega, ?_⟩
    · have hb' : ¬ (stepM g s ask).1 = "kept" := by
        rw [Bool.not_eq_true', decide_eq_false_iff_not] at hb
        exact hb
      refine fin (s := (stepM g s ask).2) (word := (stepM g s ask).1) (W.trans w58 (R.w e9)) (o8.go e9) rfl (ev_var rfl (iw.mono e9)) fun vr H10 e10 i10 => q vr H10 e10 ?_
      rw [hled, if_neg hb']
      exact i10
    · have hb' : (stepM g s ask).1 = "kept" := by
        rw [Bool.not_eq_false', decide_eq_true_eq] at hb
        exact hb
      rw [hled, if_pos hb']
  · obtain ⟨⟨a, b, rfl⟩, s, os, hs, hl, hled⟩ := pv
    rw [List.length_map, List.drop_length] at hled
    have hled : ledM g row ([], begunM g.ms) = (s.1, ("kept" : Str)) := hled
    refine fin (s := s) (word := "kept") w7 os rfl ev_str fun vr H10 e10 i10 => q vr H10 e10 ?_
    rw [hled]
    exact i10
end
end K20
end
section
set_option linter.all false
set_option maxRecDepth 100000
set_option maxHeartbeats 2000000
set_option autoImplicit false
namespace K20
open PySem PySem.Spec PyProof.Rows L2 LamX NdefX PySem.W
/-! ### the hand -/
/-- the mode in which the hand's object is one's own -/
def Md.own (m : Md) (a : Addr) : Md := { m with hd := none, lo := a :: m.lo }
def HandAt (H : Hp) (a c : Addr) (i x s t : Int) : Prop := H a = some (.lst [.ref c, .int i, .int x, .int s, .int t])
section
variable {m : Md} {K : PySem.W.Frag} {H H' : Hp} {a c : Addr} {l : List Int} {i x s t : Int}
theorem own_at (hd : m.hd = some (a, c, l)) {b : Addr} : (m.own a).at b ↔ m.at b := by
  constructor
  · rintro (⟨c', l', e⟩ | h)
    · cases e
    · rcases List.mem_cons.mp h with rfl | h
      · exact .inl ⟨c, l, hd⟩
      · exact .inr h
  · rintro (⟨c', l', e⟩ | h)
    · rw [hd] at e
      have := Option.some.inj e
      refine .inr (List.mem_cons.mpr (.inl ?_))
      exact (congrArg Prod.fst this).symm
    · exact .inr (List.mem_cons_of_mem _ h)
theorem own_vw (hd : m.hd = some (a, c, l)) : (m.own a).vw H = m.vw H := by
  funext b
  unfold Md.vw
  by_cases h : m.at b
  · rw [if_pos h, if_pos ((own_at hd).mpr h)]
  · rw [if_neg h, if_neg (fun z => h ((own_at hd).mp z))]
theorem own_ok (k : m.ok H) (hd : m.hd = some (a, c, l)) (h : HandAt H a c i x s t) : (m.own a).ok H := by
  refine ⟨k.tabs, fun _ _ _ e => (by cases e), fun p hp => ?_, fun _ _ _ _ _ e => (by cases e)⟩
  rcases List.mem_cons.mp hp with rfl | hp
  · exact ⟨_, h, rfl, nc_of rfl⟩
  · exact k.lo p hp
/-- back: the hand may have moved on -/
theorem own_back (k : m.ok H) (hd : m.hd = some (a, c, l)) (w : (m.own a).W [a] H H') (h : HandAt H' a c i x s t) (hi : 0 ≤ i) : m.R H H' := by
  obtain ⟨i0, x0, s0, t0, e1, e2, e3, e4, e5⟩ := k.hand a c l hd
  have ex : Same (m.vw H) (m.vw H') := by
    have := w.ex
    rw [own_vw hd, own_vw hd] at this
    exact this
  have hc : H' c = some (.lst (l.map V.int)) := vw_sub (ex c _ (vw_of e4 rfl fun z => by
    rcases z with ⟨c', l', e⟩ | z
    · rw [hd] at e
      exact e3 (congrArg Prod.fst (Option.some.inj e)).symm
    · exact (k.apart c z a c l hd).2 rfl))
  refine ⟨⟨w.ok.tabs, fun a' c' l' e => ?_, fun p hp => w.ok.lo p (List.mem_cons_of_mem _ hp), k.apart⟩, ex, w.dom, fun p hp _ => w.keep p (List.mem_cons_of_mem _ hp) (by simp; exact (k.apart p hp a c l hd).1)⟩
  rw [hd] at e
  have e := Option.some.inj e
  cases e
  exact ⟨i, x, s, t, h, hi, e3, hc, e5⟩
theorem own_is (hd : m.hd = some (a, c, l)) {v : V} {d : PyData} : Is (m.own a) K H v (.d d) ↔ Is m K H v (.d d) := by
  show Dp K ((m.own a).vw H) v d ↔ Dp K (m.vw H) v d
  rw [own_vw hd]
end
section
variable {m : Md} {K : PySem.W.Frag} {σ : L2.St} {H H' : Hp} {a c : Addr} {l : List Int} {i x s t : Int} {te tv : TE} {D : Ends} {tz : TS} {r : Dx} {d : PyData}
theorem ev_h {j : Int} {y : V} (h : EvD m K te σ H (.v (.ref a))) (hp : a ∈ m.lo) (hh : HandAt H a c i x s t) (hj : atI [.ref c, .int i, .int x, .int s, .int t] j = some y) (hy : ∀ H1, m.R H H1 → Is m K H1 y r) : EvD m K (tOp (rIxL K) te (tC (.int j))) σ H r := fun H1 e Q q => h H1 e _ fun v H2 e2 i2 => by
  obtain rfl : v = .ref a := i2
  have e12 := R.trans e e2
  exact ⟨a, _, j, y, rfl, rfl, SqL.of (by rw [R.lo e12 hp]; exact hh), hj, q y H2 e2 (hy H2 e12)⟩
theorem ev_hi (h : EvD m K te σ H (.v (.ref a))) (hp : a ∈ m.lo) (hh : HandAt H a c i x s t) : EvD m K (tOp (rIxL K) te (tC (.int 1))) σ H (.d (.int i)) := ev_h h hp hh rfl fun _ _ => .int i
theorem ev_hx (h : EvD m K te σ H (.v (.ref a))) (hp : a ∈ m.lo) (hh : HandAt H a c i x s t) : EvD m K (tOp (rIxL K) te (tC (.int 2))) σ H (.d (.int x)) := ev_h h hp hh rfl fun _ _ => .int x
theorem ev_hs (h : EvD m K te σ H (.v (.ref a))) (hp : a ∈ m.lo) (hh : HandAt H a c i x s t) : EvD m K (tOp (rIxL K) te (tC (.int 3))) σ H (.d (.int s)) := ev_h h hp hh rfl fun _ _ => .int s
theorem ev_ht (h : EvD m K te σ H (.v (.ref a))) (hp : a ∈ m.lo) (hh : HandAt H a c i x s t) : EvD m K (tOp (rIxL K) te (tC (.int 4))) σ H (.d (.int t)) := ev_h h hp hh rfl fun _ _ => .int t
theorem q_hset {j : Int} {jn : Nat} {b : Int} (k : m.ok H) (h0 : σ[0]? = some (some (.ref a))) (hp : a ∈ m.lo) (hh : HandAt H a c i x s t) (hv : EvD m K tv σ H (.d (.int b))) (hj : ixN 5 j = some jn)
    (q : ∀ H1, m.W [a] H H1 → H1 a = some (.lst (([.ref c, .int i, .int x, .int s, .int t] : List V).set jn (.int b))) → tz D σ H1) : tSeq (tAsg tv (gSub (tVar 0) (tC (.int j)) rSetL)) tz D σ H := hv H (R.refl k) _ fun v H1 e1 i1 => by
  rw [show v = .int b from dp_int (i1 : Dp K (m.vw H1) v (.int b))]
  refine ⟨.ref a, h0, a, [.ref c, .int i, .int x, .int s, .int t], j, jn, rfl, rfl, by rw [R.lo e1 hp]; exact hh, hj, ?_⟩
  exact q _ (W.trans (R.w e1) (W.put e1.ok hp (List.mem_cons_self ..))) upd_same
end
section
variable {m : Md} {K : PySem.W.Frag} {σ : L2.St} {H H' : Hp} {a c : Addr} {i x s t : Int} {te tv : TE} {D : Ends} {tz tu : TS} {tt : TT}
theorem s_hset {j : Int} {jn : Nat} {b : Int} (k : m.ok H) (h0 : σ[0]? = some (some (.ref a))) (hp : a ∈ m.lo) (hh : HandAt H a c i x s t) (hv : EvD m K tv σ H (.d (.int b))) (hj : ixN 5 j = some jn)
    (q : ∀ H1, m.W [a] H H1 → H1 a = some (.lst (([.ref c, .int i, .int x, .int s, .int t] : List V).set jn (.int b))) → D.nx σ H1) : tAsg tv (gSub (tVar 0) (tC (.int j)) rSetL) D σ H := by
  show tSeq (tAsg tv (gSub (tVar 0) (tC (.int j)) rSetL)) (fun D σ H => D.nx σ H) D σ H
  exact q_hset k h0 hp hh hv hj q
/-- an if without else whose rest is told once -/
theorem q_whenC {b : Bool} (Pm : L2.St → Hp → Prop) (q : ∀ σ' H', Pm σ' H' → tz D σ' H') (k : m.ok H) (h : EvT m tt σ H b) (h1 : (∀ σ' H', Pm σ' H' → tz D σ' H') → b = true → ∀ H1, m.R H H1 → tu { D with nx := tz D } σ H1) (h2 : b = false → ∀ H1, m.R H H1 → Pm σ H1) : tSeq (tIfS tt tu tNext) tz D σ H := q_when k h (h1 q) fun hb H1 e => q _ _ (h2 hb H1 e)
end
section
variable {P : Program} {w : World} {K : PySem.W.Frag} {mg : Str → Option Value} {base : Heap}
/-! _law_draw -/
abbrev spDraw (K : PySem.W.Frag) : Sp := SpP K (fun a : Nat => [.hand, .d (.int (a : Int))]) (fun a => 1 ≤ a ∧ a ≤ 1000) (fun a r => ∃ d : Nat, d < a ∧ r = .d (.int (d : Int)))
theorem sc_law_draw : FnScope ["_law_hand_here", "_law_many", "_law_cell", "_law_digit", "_law_number"] ["_law_hand_here", "_law_many"] (defScope s_law_draw) := ⟨rfl, rfl, rfl, by decide +kernel, rfl, by decide +kernel, by decide +kernel⟩
theorem ok_law_draw (T : Top K mg) : Cal P w K mg base 1 "_law_draw" ["_law_hand_here", "_law_many"] (spDraw K) := by
  have G := T.G
  refine T.d_law_draw.cal sc_law_draw (fun _ _ _ _ _ _ us hl => match us, hl with | [_, _], _ => rfl) (fun _ => rfl) (fun f cdv A outer s H0 E hr => ?_)
  refine ⟨_, (pss_cons (ps_if (PW.pt (pw_and (pt_cmpR op_eq (pe_ix ix_list (pv 0) pe_int (fun _ _ => rfl)) pe_int (nomark _)) (pw_and1 (pt_cmpR op_lt (pe_ix ix_list (pv 0) pe_int (fun _ _ => rfl)) (pe_callB call_len_seq (by rfl) G.len_ (by decide +kernel) (pa_cons (pe_ix ix_list (pv 0) pe_int (fun _ _ => rfl)) pa_nil)) (nomark _))))) (pss_cons (ps_set (i := 2) sc_law_draw.nd rfl (Or.inl rfl) (pe_ix ix_list (pe_ix ix_list (pv 0) pe_int (fun _ _ => rfl)) (pe_ix ix_list (pv 0) pe_int (fun _ _ => rfl)) (fun _ _ => rfl)))
    (pss_cons (ps_asg (pe_op op_add (pe_ix ix_list (pv 0) pe_int (fun _ _ => rfl)) pe_int) (pg_sub (pv 0) pe_int set_list))
    (pss_cons (ps_asg (pe_op op_mod (pe_callTy call_int1 (by rfl) G.int_ (by decide +kernel) (pa_cons (pe_op op_add (pe_op op_add (pe_op op_mul (pe_ix ix_list (pv 0) pe_int (fun _ _ => rfl)) pe_int) (pv 2)) pe_int) pa_nil)) pe_int) (pg_sub (pv 0) pe_int set_list))
    (pss_one (ps_if (pt_cmpR op_ge (pv 2) (pe_op op_pow pe_int pe_int) (nomark _)) (pss_one (ps_asg (pv 2) (pg_sub (pv 0) pe_int set_list))) pss_nil))))) pss_nil)
    (pss_cons (ps_if (pt_cmpR op_gt (pe_ix ix_list (pv 0) pe_int (fun _ _ => rfl)) pe_int (nomark _)) (pss_cons (ps_set (i := 3) sc_law_draw.nd rfl (Or.inl rfl) (pe_op op_mod (pe_callTy call_int1 (by rfl) G.int_ (by decide +kernel) (pa_cons (pe_ix ix_list (pv 0) pe_int (fun _ _ => rfl)) pa_nil)) (pv 1)))
    (pss_cons (ps_asg (pe_op op_fdiv (pe_ix ix_list (pv 0) pe_int (fun _ _ => rfl)) (pv 1)) (pg_sub (pv 0) pe_int set_list))
    (pss_one (ps_ret (pv 3))))) pss_nil)
    (pss_cons (ps_asg (pe_op op_add (pe_ix ix_list (pv 0) pe_int (fun _ _ => rfl)) pe_int) (pg_sub (pv 0) pe_int set_list))
    (pss_cons (ps_set (i := 4) sc_law_draw.nd rfl (Or.inl rfl) (pe_op op_mod (pe_callTy call_int1 (by rfl) G.int_ (by decide +kernel) (pa_cons (pe_op op_mul (pe_callTy call_int1 (by rfl) G.int_ (by decide +kernel) (pa_cons (pe_op op_add (pe_ix ix_list (pv 0) pe_int (fun _ _ => rfl)) (pe_op op_mul pe_int (pe_ix ix_list (pv 0) pe_int (fun _ _ => rfl)))) pa_nil)) pe_int) pa_nil)) pe_int))
    (pss_cons (ps_set (i := 4) sc_law_draw.nd rfl (Or.inl rfl) (pe_op op_mod (pe_callTy call_int1 (by rfl) G.int_ (by decide +kernel) (pa_cons (pe_op op_mul (pv 4) (pe_op op_add (pe_op op_fdiv (pv 4) pe_int) pe_int)) pa_nil)) pe_int))
    (pss_cons (ps_set (i := 4) sc_law_draw.nd rfl (Or.inl rfl) (pe_op op_mod (pe_callTy call_int1 (by rfl) G.int_ (by decide +kernel) (pa_cons (pe_op op_mul (pv 4) (pe_op op_add (pe_op op_fdiv (pv 4) pe_int) pe_int)) pa_nil)) pe_int))
    (pss_one (ps_ret (pe_op op_mod (pe_callTy call_int1 (by rfl) G.int_ (by decide +kernel) (pa_cons (pe_op op_fdiv (pv 4) pe_int) pa_nil)) (pv 1)))))))))), ?_⟩
  intro m n H vs Q k i hp q
  obtain ⟨hn1, hn2⟩ := hp
  have hn1 : 1 ≤ n := hn1
  have hn2 : n ≤ 1000 := hn2
  obtain ⟨v, v2, rfl, i1, i2⟩ := isAll2 i
  obtain ⟨a, c, l, hd, rfl⟩ := i1
  obtain ⟨ci, cx, cs, ct, hh, hi0, hne, hc, hl⟩ := k.hand a c l hd
  have k0 := own_ok k hd hh
  have hin : a ∈ (m.own a).lo := List.mem_cons_self ..
  have i2' : Is (m.own a) K H v2 (.d (.int (n : Int))) := (own_is hd).mpr i2
  have h2n : v2 = .int (n : Int) := dp_int (i2 : Dp K (m.vw H) v2 (.int (n : Int)))
  have vn : ∀ {σ : L2.St} {H1 : Hp}, σ[1]? = some (some v2) → EvD (m.own a) K (tVar 1) σ H1 (.d (.int (n : Int))) := fun h => ev_var h (by rw [h2n]; exact .int _)
  have va : ∀ {σ : L2.St} {H1 : Hp}, σ[0]? = some (some (.ref a)) → EvD (m.own a) K (tVar 0) σ H1 (.v (.ref a)) := fun h => ev_var h rfl
  have ret : ∀ {H1 : Hp} {v : V} {z i' x' s' t' : Int}, (m.own a).W [a] H H1 → HandAt H1 a c i' x' s' t' → 0 ≤ i' → Is (m.own a) K H1 v (.d (.int (z % (n : Int)))) → Q v H1 := fun {H1 v z i' x' s' t'} w1 h1 hi' iv => by
    have hz0 := Int.emod_nonneg z (show (n : Int) ≠ 0 by omega)
    have hz1 := Int.emod_lt_of_pos z (show (0 : Int) < (n : Int) by omega)
    refine q _ v H1 (own_back k hd w1 h1 hi') ⟨(z % (n : Int)).toNat, by show (z % (n : Int)).toNat < n; omega, rfl⟩ ?_
    have iv' := (own_is hd).mp iv
    rw [Int.toNat_of_nonneg hz0]
    exact iv'
  have hdc : ∀ H1, (m.own a).W [a] H H1 → Is (m.own a) K H1 (.ref c) (.d (.list (l.map .int))) := fun H1 w1 => by
    refine .lst (SqL.of (w1.ex c _ ?_)) (ints_dpAll l)
    rw [own_vw hd]
    exact vw_of hc rfl fun z => by
      rcases z with ⟨c', l', e⟩ | z
      · rw [hd] at e
        exact hne (congrArg Prod.fst (Option.some.inj e)).symm
      · exact (k.apart c z a c l hd).2 rfl
  refine q_whenC (m := m.own a) (b := decide (cx = 0) && decide (ci < (l.length : Int))) (Pm := fun σ' H' => ∃ a2 i' x' s' t', σ' = [some (.ref a), some v2, a2, none, none] ∧ (m.own a).W [a] H H' ∧ HandAt H' a c i' x' s' t' ∧ 0 ≤ i') (fun σ' H1 pm => ?_) k0 ((et_and (et_test (ev_eqI (ev_hx (va rfl) hin hh) ev_int)) fun _ => et_test (ev_ib (ev_hi (va rfl) hin hh) (ev_lenL (ev_dlr (ev_h (j := 0) (y := .ref c) (va rfl) hin hh rfl fun H1 e => hdc H1 (R.w e)))))).is (by rw [List.length_map])) (fun cont hb H1 e1 => ?_) fun hb H1 e1 => ⟨none, ci, cx, cs, ct, rfl, R.w e1, by unfold HandAt; rw [R.lo e1 hin]; exact hh, hi0⟩
  · obtain ⟨a2, i', x', s', t', rfl, w1, h1, hi'⟩ := pm
    refine q_when (b := decide (0 < x')) w1.ok (et_test (ev_ib (g := fun i j => decide (j < i)) (ev_hx (va rfl) hin h1) ev_int)) (fun hb H2 e2 => ?_) fun hb H2 e2 => ?_
    · have h2 : HandAt H2 a c i' x' s' t' := by unfold HandAt; rw [R.lo e2 hin]; exact h1
      have w2 := W.trans w1 (R.w e2)
      refine q_asg w2.ok (ev_iC (ev_intI (ev_hx (va rfl) hin h2)) (vn rfl) (by omega)) fun v3 H3 e3 i3 => ?_
      have h3 : HandAt H3 a c i' x' s' t' := by unfold HandAt; rw [R.lo e3 hin]; exact h2
      refine q_hset (jn := 2) e3.ok rfl hin h3 (ev_iC (ev_hx (va rfl) hin h3) (vn rfl) ⟨by omega, by omega⟩) rfl fun H4 w4 h4 => ?_
      have w24 := W.trans (W.trans w2 (R.w e3)) w4
      refine s_ret w4.ok (ev_var rfl (i3.w w4)) fun v5 H5 e5 i5 => ret (W.trans w24 (R.w e5)) (i' := i') (x' := x' / (n : Int)) (s' := s') (t' := t') (by unfold HandAt; rw [R.lo e5 hin]; exact h4) hi' i5
    · have h2 : HandAt H2 a c i' x' s' t' := by unfold HandAt; rw [R.lo e2 hin]; exact h1
      have w2 := W.trans w1 (R.w e2)
      refine q_hset (jn := 4) w2.ok rfl hin h2 (ev_ii (ev_ht (va rfl) hin h2) ev_int) rfl fun H3 w3 h3 => ?_
      have h3 : HandAt H3 a c i' x' s' (t' + 1) := h3
      have w03 := W.trans w2 w3
      refine q_asg w03.ok (ev_iC (ev_intI (ev_iC (ev_intI (ev_ii (ev_hs (va rfl) hin h3) (ev_iC ev_int (ev_ht (va rfl) hin h3) (.inl ⟨by decide, by decide⟩)))) ev_int (.inr ⟨by decide, by decide⟩))) ev_int (by decide)) fun v4 H4 e4 i4 => ?_
      have b4 := Int.emod_nonneg ((s' + 7919 * (t' + 1)) * 48271) (show (2147483647 : Int) ≠ 0 by decide)
      have b4' := Int.emod_lt_of_pos ((s' + 7919 * (t' + 1)) * 48271) (show (0 : Int) < 2147483647 by decide)
      refine q_asg e4.ok (ev_iC (ev_intI (ev_iC (ev_var rfl i4) (ev_ii (ev_iC (ev_var rfl i4) ev_int ⟨by decide, by decide⟩) ev_int) (.inl ⟨by omega, by omega⟩))) ev_int (by decide)) fun v5 H5 e5 i5 => ?_
      generalize (s' + 7919 * (t' + 1)) * 48271 % 2147483647 = n1 at *
      have b5 := Int.emod_nonneg (n1 * (n1 / 1009 + 69621)) (show (2147483647 : Int) ≠ 0 by decide)
      have b5' := Int.emod_lt_of_pos (n1 * (n1 / 1009 + 69621)) (show (0 : Int) < 2147483647 by decide)
      refine q_asg e5.ok (ev_iC (ev_intI (ev_iC (ev_var rfl i5) (ev_ii (ev_iC (ev_var rfl i5) ev_int ⟨by decide, by decide⟩) ev_int) (.inl ⟨by omega, by omega⟩))) ev_int (by decide)) fun v6 H6 e6 i6 => ?_
      refine s_ret e6.ok (ev_iC (ev_intI (ev_iC (ev_var rfl i6) ev_int ⟨by decide, by decide⟩)) (vn rfl) (by omega)) fun v7 H7 e7 i7 => ?_
      have e47 := R.trans (R.trans (R.trans e4 e5) e6) e7
      exact ret (W.trans w03 (R.w e47)) (i' := i') (x' := x') (s' := s') (t' := t' + 1) (by unfold HandAt; rw [R.lo e47 hin]; exact h3) hi' i7
  · rw [Bool.and_eq_true, decide_eq_true_eq, decide_eq_true_eq] at hb
    obtain ⟨rfl, hci⟩ := hb
    have h1 : HandAt H1 a c ci 0 cs ct := by unfold HandAt; rw [R.lo e1 hin]; exact hh
    have hcn : ∃ cn : Nat, ci = (cn : Int) := ⟨ci.toNat, by omega⟩
    obtain ⟨cn, rfl⟩ := hcn
    have hcl : cn < l.length := by omega
    refine q_asg e1.ok (ev_ixL (a := .int l[cn]) (ev_dlr (ev_h (j := 0) (y := .ref c) (va rfl) hin h1 rfl fun H2 e => hdc H2 (R.w (R.trans e1 e)))) (ev_hi (va rfl) hin h1) (atI_nat (by rw [List.getElem?_map, List.getElem?_eq_getElem hcl]; rfl))) fun v2' H2 e2 i2 => ?_
    generalize l[cn] = cell at *
    have h2 : HandAt H2 a c cn 0 cs ct := by unfold HandAt; rw [R.lo e2 hin]; exact h1
    have w2 : (m.own a).W [a] H H2 := R.w (R.trans e1 e2)
    refine q_hset (jn := 1) e2.ok rfl hin h2 (ev_ii (ev_hi (va rfl) hin h2) ev_int) rfl fun H3 w3 h3 => ?_
    have h3 : HandAt H3 a c ((cn : Int) + 1) 0 cs ct := h3
    have i3 := i2.w w3
    refine q_hset (jn := 3) w3.ok rfl hin h3 (ev_iC (ev_intI (ev_ii (ev_ii (ev_iC (ev_hs (va rfl) hin h3) ev_int (.inr ⟨by decide, by decide⟩)) (ev_var rfl i3)) ev_int)) ev_int (by decide)) rfl fun H4 w4 h4 => ?_
    have h4 : HandAt H4 a c ((cn : Int) + 1) 0 ((cs * 69621 + cell + 11) % 2147483629) ct := h4
    have i4 := i3.w w4
    have w04 := W.trans (W.trans w2 w3) w4
    refine s_when (b := decide ((10 : Int) ^ 18 ≤ cell)) w4.ok (et_test (ev_ib (g := fun i j => decide (j ≤ i)) (ev_var rfl i4) (ev_iC (g := fun i j => i ^ j.toNat) (i := 10) (j := 18) ev_int ev_int ⟨by decide, by decide, by decide⟩))) (fun hb H5 e5 => ?_) fun hb H5 e5 => cont _ _ ⟨some v2', (cn : Int) + 1, 0, _, ct, rfl, W.trans w04 (R.w e5), (by unfold HandAt; rw [R.lo e5 hin]; exact h4), by omega⟩
    have h5 : HandAt H5 a c ((cn : Int) + 1) 0 ((cs * 69621 + cell + 11) % 2147483629) ct := by unfold HandAt; rw [R.lo e5 hin]; exact h4
    show tAsg _ _ _ _ _
    refine s_hset (jn := 2) e5.ok rfl hin h5 (ev_var rfl (i4.mono e5)) rfl fun H6 w6 h6 => cont _ _ ⟨some v2', (cn : Int) + 1, cell, _, ct, rfl, W.trans (W.trans w04 (R.w e5)) w6, h6, by omega⟩
end
end K20
end
section
set_option linter.all false
set_option maxRecDepth 100000
set_option maxHeartbeats 2000000
set_option autoImplicit false
namespace K20
open PySem PySem.Spec PyProof.Rows L2 LamX NdefX PySem.W
section
variable {P : Program} {w : World} {K : PySem.W.Frag} {mg : Str → Option Value} {base : Heap}
/-- a def with any promise -/
theorem DefAt.calG {x : Str} {st : Stmt} {N ps : List Str} {k : Nat} {sp : Sp} (F : DefAt K mg x st) (S : FnScope N ps (defScope st))
    (hb : ∀ (kV doc pm : Value) (an : Option Addr) (cdv ct : Value) (us : List Value), us.length = ps.length → bindArgs (PySem.W.fnOf x x (defArgs st) (defBody st) (defScope st) .none kV doc pm an cdv ct) ⟨us, []⟩ = pure (ps.zip us))
    (len : ∀ vs H Q E, sp vs H Q E → vs.length = ps.length)
    (body : ∀ (f : Addr) (cdv : Value) (A : Around) (outer : List Env) (s : Shared) (H0 : Hp) (E : XK), Room k (A.deeper (envOfC x (defScope st) s.heap.objs.size f cdv)) →
      ∃ t, PSs (cxD P w K mg base N x st f cdv A outer s H0 E) (defBody st) t ∧
        ∀ (H : Hp) (vs : List V) (Q : VK), sp vs H Q E → t { nx := fun _ H' => Q .non H', rt := Q } (start N vs) H) :
    Cal P w K mg base (k + 1) x ps sp := by
  obtain ⟨f, fd, F, hm⟩ := F.ex
  refine ⟨f, fd, F.ok S len (fun cdv A outer s H vs Q E hr h => ?_), hm, F.kp, F.bindsN hb⟩
  obtain ⟨t, ht, hq⟩ := body f cdv A outer s H E hr
  exact ⟨t, ht.nox, hq H vs Q h⟩
end
section
variable {B : List Addr} {m m' : Md} {K : PySem.W.Frag} {σ : L2.St} {H H' : Hp} {ta tb te tx tl : TE} {tA : TA} {v : V} {r : Dx} {a : PyData} {D : Ends} {tz tu : TS} {p : Addr}
theorem t_yes {F G : Hp → Prop} (h : F H) : tYes σ H fun b H3 => if b = true then F H3 else G H3 := by
  show (if true = true then F H else G H)
  rw [if_pos rfl]
  exact h
/-- _law_draw(hand, n) -/
theorem es_draw {n : Nat} (h1 : EvD m K ta σ H .hand) (h2 : EvD m K tb σ H (.d (.int (n : Int)))) (hn : 1 ≤ n) (hn2 : n ≤ 1000) : EvS m K (tCall (spDraw K) [] L2.E0 (tCons ta (tCons tb tNil))) σ H (fun r => ∃ d : Nat, d < n ∧ r = .d (.int (d : Int))) := es_call (x := n) (ea_cons h1 (ea_cons h2 ea_nil)) ⟨hn, hn2⟩
theorem Stp.unhide (k : m.ok H) (hp : H p = none) (s : Stp B m (m.hide p) H H') : Stp B m m H H' := ⟨unhide_ok s.ok, s.ex.trans unhide_vw, s.dom, fun _ h => h, fun _ h n => absurd h n, fun q hq hm => s.keep q hq hm, rfl, s.T⟩
/-- a thing that is new since the start is hidden from here on -/
theorem Stp.take {o : HO} (k : m.ok H) (s : Stp B m m' H H') (hp : H p = none) (h1 : H' p = some o) (ht : isTbl o = false) (hx : NC p o) : Stp B m (m'.hide p) H H' := by
  refine ⟨⟨s.ok.tabs, s.ok.hand, fun q hq => ?_, fun q hq a c l e => ?_⟩, fun b u e => ?_, s.dom, fun q hq => List.mem_cons_of_mem _ (s.sub q hq), fun q hq n => ?_, s.keep, s.hd, s.T⟩
  · rcases List.mem_cons.mp hq with z | z
    · rw [z]; exact ⟨o, h1, ht, hx⟩
    · exact s.ok.lo q z
  · rcases List.mem_cons.mp hq with z | z
    · have e' : m.hd = some (a, c, l) := by rw [← s.hd]; exact e
      obtain ⟨i, x, sd, t, e1, _, _, e4, _⟩ := k.hand a c l e'
      rw [z]
      refine ⟨fun y => ?_, fun y => ?_⟩
      · rw [← y, hp] at e1
        cases e1
      · rw [← y, hp] at e4
        cases e4
    · exact s.ok.apart q z a c l e
  · have e2 := s.ex b u e
    refine vw_of (vw_sub e2) (vw_tbl e2) fun z => ?_
    rcases z with z | z
    · exact vw_at e2 (.inl z)
    · rcases List.mem_cons.mp z with z | z
      · have := vw_sub e
        rw [z, hp] at this
        cases this
      · exact vw_at e2 (.inr z)
  · rcases List.mem_cons.mp hq with z | z
    · rw [z]; exact hp
    · exact s.new q z n
/-- l[j] = x -/
theorem z_set {xs : List PyData} {j : Nat} (k : m.ok H) (h : EvD m K te σ H (.v (.ref p))) (o : Own m K H p xs) (hi : EvD m K tx σ H (.d (.int (j : Int)))) (hv : EvD m K tb σ H (.d a)) (hj : j < xs.length) (hB : p ∉ B)
    (q : ∀ H1, Stp B m m H H1 → (∀ p2 ys, p2 ≠ p → Own m K H p2 ys → Own m K H1 p2 ys) → Own m K H1 p (xs.set j a) → D.nx σ H1) : tAsg tb (gSub te tx rSetL) D σ H := hv H (R.refl k) _ fun y H1 e1 i1 => h H1 e1 _ fun v H2 e2 i2 => hi H2 (R.trans e1 e2) _ fun u H3 e3 i3 => by
  obtain rfl : v = .ref p := i2
  rw [show u = .int (j : Int) from dp_int (i3 : Dp K (m.vw H3) u (.int (j : Int)))]
  have e12 := R.trans (R.trans e1 e2) e3
  obtain ⟨hp, vs, h1, h2⟩ := o.go e12
  have hl := dpAll_len h2
  refine ⟨p, vs, (j : Int), j, rfl, rfl, h1, ?_, ?_⟩
  · unfold ixN
    rw [if_pos (by omega), if_pos (by omega)]
    rfl
  · exact q _ ((Stp.of_r e12).trans (Stp.put e3.ok hp hB)) (fun p2 ys ne ho => (ho.go e12).put e3.ok hp ne) (own_put e3.ok hp (dpAll_set j ((i1.mono e2).mono e3) h2))
theorem EvD.to_rl {xs : List PyData} (h : EvD m K te σ H (.v (.ref p))) (o : Own m K H p xs) : EvD m K te σ H (.rl xs) := fun H1 e Q q => h H1 e _ fun v H2 e2 i2 => by
  obtain rfl : v = .ref p := i2
  exact q _ H2 e2 (o.go (R.trans e e2)).rl
/-- list(range(n)) -/
theorem ev_lstRg1 {n : Nat} (h : EvD m K te σ H (.d (.int (n : Int)))) (hn : n ≤ 1000) : EvD m K (tLstRg (tRg1 te)) σ H (.tl ((List.range n).map fun (i : Nat) => PyData.int (i : Int))) := fun H1 e Q q => h H1 e _ fun v H2 e2 i2 => by
  rw [show v = .int (n : Int) from dp_int (i2 : Dp K (m.vw H2) v (.int (n : Int)))]
  refine ⟨(n : Int), rfl, .of_le (by omega) (by omega) (by omega) (by omega), fun l hl => ?_⟩
  have e1 : rgV 0 (n : Int) = ((List.range n).map fun (i : Nat) => (i : Int)).map V.int := by
    unfold rgV
    rw [Int.sub_zero, Int.toNat_natCast, List.map_map]
    refine List.map_congr_left fun x _ => ?_
    show V.int (0 + (x : Int)) = V.int (x : Int)
    rw [Int.zero_add]
  rw [e1]
  have r2 : m.R H2 (upd H2 l (.lst (((List.range n).map fun (i : Nat) => (i : Int)).map V.int))) := R.new e2.ok hl
  refine q _ _ (R.trans e2 r2) ⟨l, _, rfl, vw_upd e2.ok hl rfl, ?_⟩
  have := ints_dpAll (K := K) (H := m.vw (upd H2 l (.lst (((List.range n).map fun (i : Nat) => (i : Int)).map V.int)))) ((List.range n).map fun (i : Nat) => (i : Int))
  rw [List.map_map (l := List.range n) (f := fun (i : Nat) => (i : Int)) (g := PyData.int)] at this
  exact this
/-- tuple(range(i, j)) -/
theorem ev_tupRg2 {i j : Nat} (h : EvD m K ta σ H (.d (.int (i : Int)))) (h2 : EvD m K tb σ H (.d (.int (j : Int)))) (hn : i ≤ 1000) (hj : j ≤ 1000) : EvD m K (tTupRg (tRg2 ta tb)) σ H (.d (dInts ((List.range (j - i)).map fun (x : Nat) => ((i + x : Nat) : Int)))) := fun H1 e Q q => h H1 e _ fun v H2 e2 i2 => h2 H2 (R.trans e e2) _ fun u H3 e3 i3 => by
  rw [show v = .int (i : Int) from dp_int (i2 : Dp K (m.vw H2) v (.int (i : Int))), show u = .int (j : Int) from dp_int (i3 : Dp K (m.vw H3) u (.int (j : Int)))]
  refine ⟨(i : Int), (j : Int), rfl, rfl, .of_le (by omega) (by omega) (by omega) (by omega), fun l hl => ?_⟩
  have e1 : rgV (i : Int) (j : Int) = ((List.range (j - i)).map fun (x : Nat) => ((i + x : Nat) : Int)).map V.int := by
    unfold rgV
    rw [show ((j : Int) - (i : Int)).toNat = j - i by omega, List.map_map]
    refine List.map_congr_left fun x _ => ?_
    show V.int ((i : Int) + (x : Int)) = V.int ((i + x : Nat) : Int)
    rw [Int.natCast_add]
  rw [e1]
  have r2 : m.R H3 (upd H3 l (.tup (((List.range (j - i)).map fun (x : Nat) => ((i + x : Nat) : Int)).map V.int))) := R.new e3.ok hl
  exact q _ _ (R.trans (R.trans e2 e3) r2) (.tup (SqT.of (vw_upd e3.ok hl rfl)) (ints_dpAll _))
/-- [.. for x in range(i, j)] -/
theorem ev_lcR2 {jj : Nat} {tt : TT} {vs : List Nat} {i n : Nat} (pf : Nat → Bool) (f : Nat → PyData) (h : EvA m K tA σ H [.d (.int (i : Int)), .d (.int (n : Int))]) (hz : n ≤ 1000) (hz2 : i ≤ 1000) (hw : ∀ x, wipe ((wipe σ vs).set jj (some x)) vs = wipe σ vs)
    (ht : ∀ m' H' y, y < n - i → Into m m' K H H' → EvT m' tt ((wipe σ vs).set jj (some (.int ((i : Int) + (y : Int))))) H' (pf y)) (he : ∀ m' H' y, y < n - i → Into m m' K H H' → pf y = true → EvD m' K te ((wipe σ vs).set jj (some (.int ((i : Int) + (y : Int))))) H' (.d (f y))) :
    EvD m K (tLc (iRng2 tA) (gName jj) tt te vs) σ H (.tl (((List.range (n - i)).filter pf).map f)) := fun H0 e0 Q q => h H0 e0 _ fun ws H1 e1 i1 => by
  obtain ⟨v1, v2, rfl, i2, i3⟩ := isAll2 i1
  rw [dp_int i2, dp_int i3]
  refine ⟨(i : Int), (n : Int), rfl, ⟨by omega, by omega, by omega, by omega⟩, fun D hD => ?_⟩
  rw [show ((n : Int) - (i : Int)).toNat = n - i by omega]
  refine lc20 (m := m) (K := K) (walk_range (lo := (i : Int)) (n := n - i)) (by omega) e1.ok (fun y ys => ys = ((List.range y).filter pf).map f) rfl (fun H' s => True.intro) (fun m' H' H'' y v ys hi I yy a Q2 q2 => ?_) (fun D H' ys r a iv => by subst a; exact q _ H' (R.trans e1 r) iv) D hD
  obtain ⟨rfl, rfl⟩ := yy
  have I' : Into m m' K H H'' := ⟨I.ok, fun v d h => I.is v d (h.mono (R.trans e0 e1)), fun p hp => ⟨(I.lo p hp).1, (I.lo p hp).2.trans (R.lo (R.trans e0 e1) hp)⟩⟩
  refine q2 _ (R.refl I.ok) (hw _) (TurnOk.det (ht m' _ y hi I') (he m' _ y hi I') (fun hp => ?_) fun hp => ?_)
  · show ys = _
    rw [a, List.range_succ, List.filter_append, List.filter_cons, if_neg (by rw [hp]; decide), List.filter_nil, List.append_nil]
  · show ys ++ [f y] = _
    rw [a, List.range_succ, List.filter_append, List.filter_cons, if_pos hp, List.filter_nil, List.map_append] <;> rfl
/-- [left.pop(draw(hand, len(left))) for .. in range(e)] -/
theorem x_lcPop {te0 : TE} {sl sh jj : Nat} {vs : List Nat} {left : List Int} {hv : V} {S : Nat → Prop} {Q : VK} (k : m.ok H) (h0 : EvS m K te0 σ H (fun r => ∃ n : Nat, r = .d (.int (n : Int)) ∧ n ≤ left.length ∧ S n)) (hL : left.length ≤ 1000) (o : Own m K H p (left.map .int)) (hB : p ∉ B) (hBH : ∀ b ∈ B, ∃ u, H b = some u)
    (hw : ∀ x, wipe ((wipe σ vs).set jj (some x)) vs = wipe σ vs) (hsl : ∀ x, ((wipe σ vs).set jj (some x))[sl]? = some (some (.ref p))) (hsh : ∀ x, ((wipe σ vs).set jj (some x))[sh]? = some (some hv)) (ih : Is m K H hv .hand)
    (q : ∀ n D H' (ys : List Int), S n → H D = none → Stp B m (m.hide D) H H' → (∀ p2 zs, p2 ≠ p → Own m K H p2 zs → Own (m.hide D) K H' p2 zs) → ys.length = n → H' D = some (.lst (ys.map V.int)) → Q (.ref D) H') :
    tLc (iRng1 (tCons te0 tNil)) (gName jj) tYes (tBM K "list" rPopAt (tVar sl) (tCons (tCall (spDraw K) [] L2.E0 (tCons (tVar sh) (tCons (tCB (rLenS K) (tCons (tVar sl) tNil)) tNil))) tNil)) vs σ H Q := h0 H (R.refl k) _ fun r v H1 e1 hr iv => by
  obtain ⟨n, rfl, hn, hS⟩ := hr
  rw [show v = .int (n : Int) from dp_int (iv : Dp K (m.vw H1) v (.int (n : Int)))]
  refine ⟨(n : Int), rfl, by omega, by omega, fun D hD => ?_⟩
  rw [Int.toNat_natCast]
  have o1 := o.go e1
  have hpD : p ≠ D := fun z => by
    obtain ⟨_, vs, h1, _⟩ := o1
    rw [z, hD] at h1
    cases h1
  have hDm : D ∉ m.lo := fun z => by
    obtain ⟨o, ho, _⟩ := e1.ok.lo D z
    rw [hD] at ho
    cases ho
  have s1 : Stp B m (m.hide D) H (upd H1 D (.lst [])) := (Stp.of_r e1).trans (Stp.hide e1.ok hD)
  have inD : D ∈ (m.hide D).lo := List.mem_cons_self ..
  refine lc_it (walk_range (lo := 0) (n := n)) (fun i H' => ∃ (ys lf : List Int), Stp B m (m.hide D) H H' ∧ (∀ p2 zs, p2 ≠ p → Own m K H p2 zs → Own (m.hide D) K H' p2 zs) ∧ H' D = some (.lst (ys.map V.int)) ∧ ys.length = i ∧ Own (m.hide D) K H' p (lf.map .int) ∧ lf.length + i = left.length)
    ⟨[], left, s1, fun p2 zs ne oz => (oz.go e1).hide e1.ok hD, upd_same, rfl, o1.hide e1.ok hD, rfl⟩ (fun i H' _ _ => True.intro) (fun i x H' H'' hi pv y => ?_) (fun H' pv => ?_)
  · obtain ⟨rfl, rfl⟩ := y
    obtain ⟨ys, lf, s2, oth, hd2, hl2, ow2, hlen⟩ := pv
    have ih2 : Is (m.hide D) K H'' hv .hand := s2.fix ih rfl
    have hg : EvD (m.hide D) K (tVar sl) ((wipe σ vs).set jj (some (.int (0 + (i : Int))))) H'' (.v (.ref p)) := ev_var (hsl _) rfl
    refine ⟨hw _, ?_⟩
    refine t_yes ?_
    refine ⟨.ref p, hsl _, ?_, ?_⟩
    · obtain ⟨_, vv, h1, _⟩ := ow2
      exact .inl ⟨rfl, vv, SqL.of h1⟩
    refine es_draw (n := lf.length) (ev_var (hsh _) ih2) ((ev_lenL (hg.to_rl ow2)).is (by rw [List.length_map])) (by omega) (by omega) H'' (R.refl s2.ok) _ fun r vd H3 e3 hr id => ?_
    obtain ⟨d, hd, rfl⟩ := hr
    rw [show vd = .int (d : Int) from dp_int (id : Dp K ((m.hide D).vw H3) vd (.int (d : Int)))]
    obtain ⟨hpin, vv, h1, h2⟩ := ow2.go e3
    have ex := dpAll_ints h2
    subst ex
    have hl3 : (lf.map V.int).length = lf.length := List.length_map ..
    refine ⟨p, lf.map V.int, (d : Int), d, .int lf[d], rfl, rfl, h1, by omega, by omega, ?_, by rw [List.getElem?_map, List.getElem?_eq_getElem hd]; rfl, ?_⟩
    · rw [hl3]
      refine (ixN_seq ?_).1
      unfold ixN
      rw [if_pos (by omega), if_pos (by omega)]
      rfl
    · have hd3 : H3 D = some (.lst (ys.map V.int)) := by rw [R.lo e3 inD]; exact hd2
      have s3 := s2.then_r e3
      have p4 : Stp B (m.hide D) (m.hide D) H3 (upd H3 p (.lst ((lf.map V.int).eraseIdx d))) := Stp.put e3.ok hpin hB
      have s4 := s3.trans p4
      have hd4 : upd H3 p (.lst ((lf.map V.int).eraseIdx d)) D = some (.lst (ys.map V.int)) := by rw [upd_ne (Ne.symm hpD)]; exact hd3
      have er : (lf.map V.int).eraseIdx d = (lf.eraseIdx d).map V.int := erase_mapI lf d
      have w5 : (m.hide D).W [D] (upd H3 p (.lst ((lf.map V.int).eraseIdx d))) (upd (upd H3 p (.lst ((lf.map V.int).eraseIdx d))) D (.lst (ys.map V.int ++ [.int lf[d]]))) := W.put s4.ok inD (List.mem_cons_self ..)
      refine ⟨ys.map V.int, hd4, Evl.sz_lt (by rw [List.length_map]; omega), ys ++ [lf[d]], lf.eraseIdx d, ?_, fun p2 zs ne oz => ?_, by rw [upd_same, List.map_append]; rfl, by rw [List.length_append, hl2]; rfl, ?_, by rw [List.length_eraseIdx, if_pos hd]; omega⟩
      · have nbD : ∀ b ∈ B, b ≠ D := fun b hb z => by
          obtain ⟨u, hu⟩ := hBH b hb
          rw [z, e1.dom _ hD] at hu
          cases hu
        exact s4.trans ⟨w5.ok, w5.ex, w5.dom, fun _ h => h, fun _ h n => absurd h n, fun b hb hm => w5.keep b hm (by simp; exact nbD b hb), rfl, rfl⟩
      · have o3 := ((oth p2 zs ne oz).go e3).put e3.ok hpin ne (o := .lst ((lf.map V.int).eraseIdx d))
        refine o3.put s4.ok inD (fun z => ?_)
        obtain ⟨hz, _⟩ := oz
        exact hDm (z ▸ hz)
      · have o3 : Own (m.hide D) K (upd H3 p (.lst ((lf.map V.int).eraseIdx d))) p ((lf.eraseIdx d).map .int) := by
          rw [er]
          exact own_put e3.ok hpin (ints_dpAll _)
        exact o3.put s4.ok inD hpD
  · obtain ⟨ys, lf, s2, oth, hd2, hl2, ow2, hlen⟩ := pv
    exact q n D H' ys hS (e1.dom _ hD) s2 oth hl2 hd2
end
end K20
end
section
set_option linter.all false
set_option maxRecDepth 100000
set_option maxHeartbeats 2000000
set_option autoImplicit false
namespace K20
open PySem PySem.Spec PyProof.Rows L2 LamX NdefX PySem.W
/-! ### data that can be compared -/
theorem lay_all : ∀ {ds : List PyData}, (∀ d ∈ ds, d.canLay0 = true) → PyData.canLayAll0 ds = true
  | [], _ => rfl
  | d :: ds, h => by
    have h1 := h d (List.mem_cons_self ..)
    have h2 := lay_all fun x hx => h x (List.mem_cons_of_mem _ hx)
    simp [PyData.canLayAll0, h1, h2]
theorem depth_all {n : Nat} : ∀ {ds : List PyData}, (∀ d ∈ ds, d.depth ≤ n) → PyData.depthAll ds ≤ n
  | [], _ => Nat.zero_le _
  | d :: ds, h => by
    have h1 := h d (List.mem_cons_self ..)
    have h2 := depth_all fun x hx => h x (List.mem_cons_of_mem _ hx)
    simp only [PyData.depthAll]
    omega
theorem dPair_lay (p : Nat × Nat) : (dPair p).canLay0 = true := by simp [dPair, PyData.canLay0, PyData.canLayAll0]
theorem dPair_depth (p : Nat × Nat) : (dPair p).depth = 1 := by simp [dPair, PyData.depth, PyData.depthAll]
theorem shaped_of {d : PyData} (h : d.canLay0 = true) (hd : d.depth ≤ 64) : SeqAt.shaped d = true := by
  unfold SeqAt.shaped
  rw [h, decide_eq_true hd]
  rfl
theorem pairs_shaped (ts : List (Nat × Nat)) : SeqAt.shaped (.tuple (ts.map dPair)) = true := by
  refine shaped_of ?_ ?_
  · show PyData.canLayAll0 (ts.map dPair) = true
    exact lay_all fun d hd => by
      obtain ⟨p, _, rfl⟩ := List.mem_map.mp hd
      exact dPair_lay p
  · have h1 : PyData.depthAll (ts.map dPair) ≤ 1 := depth_all fun d hd => by
      obtain ⟨p, _, rfl⟩ := List.mem_map.mp hd
      rw [dPair_depth]
      exact Nat.le_refl _
    simp only [PyData.depth]
    omega
theorem dPair_eqv (p q : Nat × Nat) : PyData.eqv (dPair p) (dPair q) = decide (p = q) := by
  obtain ⟨a, b⟩ := p
  obtain ⟨a', b'⟩ := q
  have e : PyData.eqv (dPair (a, b)) (dPair (a', b')) = (((a : Int) == (a' : Int)) && (((b : Int) == (b' : Int)) && true)) := by
    simp [dPair, PyData.eqv, PyData.eqvAll]
  rw [e, Bool.and_true]
  by_cases h1 : a = a'
  · by_cases h2 : b = b'
    · simp [h1, h2]
    · have : ((b : Int) == (b' : Int)) = false := beq_eq_false_iff_ne.mpr (by omega)
      rw [this]
      simp [h2]
  · have : ((a : Int) == (a' : Int)) = false := beq_eq_false_iff_ne.mpr (by omega)
    rw [this]
    simp [h1]
theorem pairs_any (ts : List (Nat × Nat)) (p : Nat × Nat) : ((ts.map dPair).any fun z => PyData.eqv z (dPair p)) = decide (p ∈ ts) := by
  induction ts with
  | nil => rfl
  | cons q r ih =>
    rw [List.map_cons, List.any_cons, ih, dPair_eqv]
    by_cases h : q = p
    · simp [h]
    · have h2 : ¬ p = q := fun z => h z.symm
      simp [h, h2]
theorem x_retLst {m : Md} {K : PySem.W.Frag} {σ : L2.St} {H : Hp} {tA : TA} {ds : List Dx} {D : Ends} (k : m.ok H) (ha : EvA m K tA σ H ds) (hl : ds.length ≤ 100000) (q : ∀ vs H1 p, m.R H H1 → IsAll m K H1 vs ds → H1 p = none → D.rt (.ref p) (upd H1 p (.lst vs))) : tRet (tLst tA) D σ H := ha H (R.refl k) _ fun vs H1 e i => ⟨by rw [isAll_len i]; exact Evl.sz_of hl, fun p hp => q vs H1 p e i hp⟩
def dSpec (ms : List Nat) (ts : List (Nat × Nat)) : PyData := .tuple [dNats ms, dPairs ts]
section
variable {P : Program} {w : World} {K : PySem.W.Frag} {mg : Str → Option Value} {base : Heap}
/-! ### _law_is_whole -/
abbrev spWhole (K : PySem.W.Frag) : Sp := SpF K (fun a : PyData × Int × Int => [.d a.1, .d (.int a.2.1), .d (.int a.2.2)]) (fun _ => True) (fun a => .d (.bool (within a.1 a.2.1 a.2.2)))
theorem sc_law_is_whole : FnScope ["_law_thing", "_law_least", "_law_most"] ["_law_thing", "_law_least", "_law_most"] (defScope s_law_is_whole) := ⟨rfl, rfl, rfl, by decide +kernel, rfl, by decide +kernel, by decide +kernel⟩
theorem ok_law_is_whole (T : Top K mg) : Cal P w K mg base 1 "_law_is_whole" ["_law_thing", "_law_least", "_law_most"] (spWhole K) := by
  have G := T.G
  refine T.d_law_is_whole.cal sc_law_is_whole (fun _ _ _ _ _ _ us hl => match us, hl with | [_, _, _], _ => rfl) (fun _ => rfl) (fun f cdv A outer s H0 E hr => ?_)
  refine ⟨_, (pss_one (ps_ret (pe_and (pe_callB call_isi (by rfl) G.isinstance_ (by decide +kernel) (pa_cons (pv 0) (pa_cons (pe_bltn (v := .ty "int") (by rfl) G.int_ (by decide +kernel) rfl) pa_nil))) (pe_and (pe_not (pe_callB call_isi (by rfl) G.isinstance_ (by decide +kernel) (pa_cons (pv 0) (pa_cons (pe_bltn (v := .ty "bool") (by rfl) G.bool_ (by decide +kernel) rfl) pa_nil)))) (pe_one (pe_chain op_le op_le (pv 1) (pv 0) (pv 2))))))), ?_⟩
  intro m ⟨d, lo, hi⟩ H vs Q k i _ q
  obtain ⟨v, v2, v3, rfl, i1, i2, i3⟩ := isAll3 (show IsAll m K H vs [.d d, .d (.int lo), .d (.int hi)] from i)
  cases hd : isInt d with
  | true =>
    obtain ⟨n, rfl⟩ := int_of hd
    refine s_ret k (ev_andV (ev_isi (ev_var rfl i1) (kit_int _)) fun _ => ev_andV (ev_notV (ev_isi (ev_var rfl i1) (kit_bool _))) fun _ => ev_chain (ev_var rfl i2) (ev_var rfl i1) (ev_var rfl i3)) fun v H1 e i1 => q _ v H1 e rfl i1
  | false =>
    cases hb : (tyD d == "bool") with
    | true =>
      refine s_ret k ((ev_andV (b := false) (ev_isi (ev_var rfl i1) (kit_int d)) fun _ => (ev_andV (b := false) (ev_notV (ev_isi (ev_var rfl i1) (kit_bool d))) fun z => by rw [hb] at z; cases z).b (by rw [Bool.and_false])).b ?_) fun v H1 e i1 => q _ v H1 e rfl i1
      rw [Bool.and_false]
      cases d <;> first | rfl | cases hd
    | false =>
      refine s_ret k ((ev_andV (b := false) (ev_isi (ev_var rfl i1) (kit_int d)) fun z => by rw [hd, hb] at z; cases z).b ?_) fun v H1 e i1 => q _ v H1 e rfl i1
      rw [Bool.and_false]
      cases d <;> first | rfl | cases hd
/-! ### _law_tied -/
abbrev spLawTied (K : PySem.W.Frag) : Sp := SpF K (fun a : Wb × Nat => [.d (dSpec a.1.1 a.1.2), .d (.int (a.2 : Int))]) (fun a => a.1.1.length ≤ 100) (fun a => .tl (((List.range a.1.1.length).filter (tied a.1.2 a.2)).map fun (n : Nat) => PyData.int (n : Int)))
theorem sc_law_tied : FnScope ["_law_spec_here", "_law_room", "_law_other"] ["_law_spec_here", "_law_room"] (defScope s_law_tied) := ⟨rfl, rfl, rfl, by decide +kernel, rfl, by decide +kernel, by decide +kernel⟩
theorem ok_law_tied (T : Top K mg) : Cal P w K mg base 1 "_law_tied" ["_law_spec_here", "_law_room"] (spLawTied K) := by
  have G := T.G
  refine T.d_law_tied.cal sc_law_tied (fun _ _ _ _ _ _ us hl => match us, hl with | [_, _], _ => rfl) (fun _ => rfl) (fun f cdv A outer s H0 E hr => ?_)
  refine ⟨_, (pss_one (ps_ret (pe_lc (own := [("_law_other", 2)]) (g := (gName 2)) (tt := (tOr (tTest (tOp (rInDT K) (tTup (tCons (tVar 1) (tCons (tVar 2) tNil))) (tOp (rIxT K) (tVar 0) (tC (.int 1))))) (tTest (tOp (rInDT K) (tTup (tCons (tVar 2) (tCons (tVar 1) tNil))) (tOp (rIxT K) (tVar 0) (tC (.int 1))))))) (te := (tVar 2)) rfl sc_law_tied.nd (pi_range1 (by rfl) G.range_ (pa_cons (pe_callB call_len_seq (by rfl) G.len_ (by decide +kernel) (pa_cons (pe_ix ix_tup (pv 0) pe_int (fun _ _ => rfl)) pa_nil)) pa_nil)) (blkOk_by (own := [("_law_other", 2)]) (by kernel_rfl)) (fun _ _ _ _ _ => (pg_name (i := 2) sc_law_tied.nd rfl (Or.inl rfl))) (fun _ _ _ _ _ => (pts_one (PW.pt (pw_or (pt_cmpR (op_inDT (hu65 hr)) (pe_tup (pa_cons (pv 1) (pa_cons (pv 2) pa_nil))) (pe_ix ix_tup (pv 0) pe_int (fun _ _ => rfl)) (by rfl)) (pw_or1 (pt_cmpR (op_inDT (hu65 hr)) (pe_tup (pa_cons (pv 2) (pa_cons (pv 1) pa_nil))) (pe_ix ix_tup (pv 0) pe_int (fun _ _ => rfl)) (by rfl))))))) (fun _ _ _ _ _ => (pv 2))))), ?_⟩
  intro m ⟨⟨ms, ts⟩, r⟩ H vs Q k i hn q
  obtain ⟨v, v2, rfl, i1, i2⟩ := isAll2 (show IsAll m K H vs [.d (dSpec ms ts), .d (.int (r : Int))] from i)
  have hn : ms.length ≤ 100 := hn
  refine s_ret k (ev_lcR (tied ts r) (fun n => .int (n : Int)) (ea_cons ((ev_lenT (ds := ms.map fun (n : Nat) => PyData.int (n : Int)) (ev_ixT (ds := [dNats ms, dPairs ts]) (ev_var rfl i1) ev_int rfl)).is (by rw [List.length_map])) ea_nil) (by omega) (fun _ => rfl) (fun m' H' o ho I => ?_) (fun m' H' o ho I _ => ev_var rfl (.int (o : Int)))) fun v H1 e i1 => q _ v H1 e rfl i1
  have j1 : Is m' K H' v (.d (.tuple [dNats ms, dPairs ts])) := I.is _ _ i1
  refine (et_or (et_test (ev_inDT (d := dPair (r, o)) (ds := ts.map dPair) (ev_tup (ds := [.int (r : Int), .int (o : Int)]) (ea_cons (ev_var rfl (I.is _ _ i2)) (ea_cons (ev_var rfl (.int (o : Int))) ea_nil))) (ev_ixT (ev_var rfl j1) ev_int rfl) (shaped_of (dPair_lay _) (by rw [dPair_depth]; decide)) (pairs_shaped ts))) fun _ => et_test (ev_inDT (d := dPair (o, r)) (ds := ts.map dPair) (ev_tup (ds := [.int (o : Int), .int (r : Int)]) (ea_cons (ev_var rfl (.int (o : Int))) (ea_cons (ev_var rfl (I.is _ _ i2)) ea_nil))) (ev_ixT (ev_var rfl j1) ev_int rfl) (shaped_of (dPair_lay _) (by rw [dPair_depth]; decide)) (pairs_shaped ts))).is ?_
  rw [pairs_any, pairs_any]
  rfl
/-! ### _law_hand -/
def spHand (K : PySem.W.Frag) : Sp := fun vs H Q _ => ∃ (m : Md) (v : V) (ns : List Int), vs = [v] ∧ m.ok H ∧ Is m K H v (.rl (ns.map .int)) ∧ ∀ (a c : Addr) (l : List Int) (s : Int) (H' : Hp), m.R H H' → H a = none → c ≠ a → HandAt H' a c 0 0 s 0 → H' c = some (.lst (l.map V.int)) → l.length ≤ 63 → Q (.ref a) H'
theorem sc_law_hand : FnScope ["_law_script", "_law_cells", "_law_cell"] ["_law_script"] (defScope s_law_hand) := ⟨rfl, rfl, rfl, by decide +kernel, rfl, by decide +kernel, by decide +kernel⟩
theorem ok_law_hand (T : Top K mg) : Cal P w K mg base 1 "_law_hand" ["_law_script"] (spHand K) := by
  have G := T.G
  refine T.d_law_hand.calG sc_law_hand (fun _ _ _ _ _ _ us hl => match us, hl with | [_], _ => rfl) (fun vs H Q E h => by obtain ⟨_, _, _, rfl, _⟩ := h; rfl) (fun f cdv A outer s H0 E hr => ?_)
  refine ⟨_, (pss_cons (ps_setLc (i := 1) (own := [("_law_cell", 2)]) (g := (gName 2)) (tt := tYes) (te := (tCB (rI1 fun i => if i < 0 then -i else i) (tCons (tCB rIntI (tCons (tVar 2) tNil)) tNil))) rfl sc_law_hand.nd rfl rfl (sw_true rfl rfl rfl (by decide +kernel)) (pi_list (pe_slice sl_list (pv 0) po_none (po_some pe_int))) (blkOk_by (own := [("_law_cell", 2)]) (by kernel_rfl)) (fun _ _ _ _ _ => (pg_name (i := 2) sc_law_hand.nd rfl (Or.inl rfl))) (fun _ _ _ _ _ => pts_nil) (fun _ _ _ _ _ => (pe_callB call_abs (by rfl) G.abs_ (by decide +kernel) (pa_cons (pe_callTy call_int1 (by rfl) G.int_ (by decide +kernel) (pa_cons (pv 2) pa_nil)) pa_nil))))
    (pss_one (ps_ret (pe_lst (pa_cons (pv 1) (pa_cons pe_int (pa_cons pe_int (pa_cons (pe_op op_add pe_int (pe_callB call_len_seq (by rfl) G.len_ (by decide +kernel) (pa_cons (pv 1) pa_nil))) (pa_cons pe_int pa_nil))))))))), ?_⟩
  rintro H vs Q ⟨m, v, ns, rfl, k, i1, q⟩
  let ab : PyData → PyData := fun d => match d with | .int i => .int (if i < 0 then -i else i) | d => d
  have hcut : cutD (ns.map PyData.int) none (some ((63 : Nat) : Int)) = (ns.take 63).map .int := by rw [cutD_take, List.map_take]
  have hL : EvD m K (tLc (iList K (tSl (rSlL K) (tVar 0) tNoPart (tPart (tC (.int 63))))) (gName 2) tYes (tCB (rI1 fun i => if i < 0 then -i else i) (tCons (tCB rIntI (tCons (tVar 2) tNil)) tNil)) [2]) (start ["_law_script", "_law_cells", "_law_cell"] [v]) H (.tl (((ns.take 63).map fun i => if i < 0 then -i else i).map .int)) := by
    refine (ev_lcL (fun _ => true) ab (ev_tl ((ev_slL (lo := none) (hi := some ((63 : Nat) : Int)) (ev_var rfl i1) eo_none (eo_some (K := K) ev_int)).is (by rw [hcut]))) (by rw [List.length_map, List.length_take]; omega) (fun _ => rfl) (fun _ _ _ _ _ _ _ => et_yes rfl) (fun m' H' d u hd I hi _ => ?_)).is ?_
    · obtain ⟨n, _, rfl⟩ := List.mem_map.mp hd
      exact ev_i1 (ev_intI (ev_var rfl hi))
    · rw [filter_true, List.map_map, List.map_map]
      rfl
  refine q_asg k hL fun vc H1 e1 ic => ?_
  obtain ⟨c, ws, rfl, h1, h2⟩ := id ic
  have ex := dpAll_ints h2
  subst ex
  refine x_retLst e1.ok (ea_cons (ev_var (r := .v (.ref c)) rfl rfl) (ea_cons ev_int (ea_cons ev_int (ea_cons (ev_ii ev_int (ev_lenL (ev_tlr (ev_var rfl ic)))) (ea_cons ev_int ea_nil))))) (by show 5 ≤ 100000; decide) fun vs H2 a e2 ia ha => ?_
  obtain ⟨u1, u2, u3, u4, u5, rfl, a1, a2, a3, a4, a5⟩ := isAll5 ia
  obtain rfl : u1 = .ref c := a1
  rw [dp_int a2, dp_int a3, dp_int a4, dp_int a5]
  have e12 := R.trans e1 e2
  have r3 := R.new (o := .lst [.ref c, .int 0, .int 0, .int (1 + ((List.map PyData.int (List.map (fun i => if i < 0 then -i else i) (List.take 63 ns))).length : Int)), .int 0]) e2.ok ha
  have hc2 := vw_sub (e2.ex c _ h1)
  exact q a c _ _ _ (R.trans e12 r3) (e12.dom a ha) (ne_of_none hc2 ha) upd_same (by rw [upd_ne (ne_of_none hc2 ha)]; exact hc2) (by rw [List.length_map, List.length_take]; omega)
end
end K20
end
section
set_option linter.all false
set_option maxRecDepth 100000
set_option maxHeartbeats 2000000
set_option autoImplicit false
namespace K20
open PySem PySem.Spec PyProof.Rows L2 LamX NdefX PySem.W
/-! ### _law_spec -/
def pairsTo (n i : Nat) : List (Nat × Nat) := (List.range i).flatMap fun a => (List.range (n - (a + 1))).map fun y => (a, a + 1 + y)
theorem pairs_ok : ∀ n, n ≤ 5 → (pairsTo n n).length ≤ 20 ∧ (∀ p ∈ pairsTo n n, p.1 < p.2 ∧ p.2 < n) ∧ (pairsTo n n).Pairwise fun p q => p.1 < q.1 ∨ (p.1 = q.1 ∧ p.2 < q.2) := by decide +kernel
theorem webOk_sub {ms : List Nat} {ts : List (Nat × Nat)} (h1 : 1 ≤ ms.length) (h5 : ms.length ≤ 5) (hm : ∀ m ∈ ms, m ≤ 3) (hs : ts.Sublist (pairsTo ms.length ms.length)) : WebOk ms ts := by
  obtain ⟨a, b, c⟩ := pairs_ok _ h5
  exact ⟨h1, h5, hm, fun p hp => b p (hs.subset hp), Nat.le_trans hs.length_le a, c.sublist hs⟩
section
variable {m : Md} {K : PySem.W.Frag} {σ : L2.St} {H : Hp} {te : TE}
theorem es_tupL {S : List PyData → Prop} (h : EvS m K te σ H (fun r => ∃ ds, r = .tl ds ∧ S ds)) : EvS m K (tCB (rTupOf K) (tCons te tNil)) σ H (fun r => ∃ ds, r = .d (.tuple ds) ∧ S ds) :=
  es_bind (fun te => tCB (rTupOf K) (tCons te tNil)) (fun _ _ _ _ => rfl) h fun r v H1 e ⟨ds, hr, hs⟩ i => by
    subst hr
    exact (ev_tupL (ev_tlr (ev_cv i))).s ⟨ds, rfl, hs⟩
end
section
variable {P : Program} {w : World} {K : PySem.W.Frag} {mg : Str → Option Value} {base : Heap}
abbrev spSpec (K : PySem.W.Frag) : Sp := SpP K (fun _ : Unit => [.hand, .d (.int 5), .d (.int 3)]) (fun _ => True) (fun _ r => ∃ ms ts, r = .d (dSpec ms ts) ∧ WebOk ms ts)
theorem sc_law_spec : FnScope ["_law_hand_here", "_law_most", "_law_memory", "_law_many", "_law_memories", "_law_pairs", "_law_one", "_law_kind", "_law_room", "_law_pair", "_law_other"] ["_law_hand_here", "_law_most", "_law_memory"] (defScope s_law_spec) := ⟨rfl, rfl, rfl, by decide +kernel, rfl, by decide +kernel, by decide +kernel⟩
theorem ok_law_spec (T : Top K mg) : Cal P w K mg base 2 "_law_spec" ["_law_hand_here", "_law_most", "_law_memory"] (spSpec K) := by
  have G := T.G
  refine T.d_law_spec.cal sc_law_spec (fun _ _ _ _ _ _ us hl => match us, hl with | [_, _, _], _ => rfl) (fun _ => rfl) (fun f cdv A outer s H0 E hr => ?_)
  refine ⟨_, (pss_cons (ps_set (i := 3) sc_law_spec.nd rfl (Or.inl rfl) (pe_op op_add pe_int (pe_cal (ok_law_draw T) (hr.mono (by decide)) (by rfl) (pa_cons (pv 0) (pa_cons (pv 1) pa_nil)))))
    (pss_cons (ps_set (i := 4) sc_law_spec.nd rfl (Or.inl rfl) (pe_callTy call_tuple_of (by rfl) G.tuple_ (by decide +kernel) (pa_cons (pe_lc (own := [("_law_room", 8)]) (g := (gName 8)) (tt := tYes) (te := (tCall (spDraw K) [] E0 (tCons (tVar 0) (tCons (tOp (rI0 fun i j => .int (i + j)) (tVar 2) (tC (.int 1))) tNil)))) rfl sc_law_spec.nd (pi_range1 (by rfl) G.range_ (pa_cons (pv 3) pa_nil)) (blkOk_by (own := [("_law_room", 8)]) (by kernel_rfl)) (fun _ _ _ _ _ => (pg_name (i := 8) sc_law_spec.nd rfl (Or.inl rfl))) (fun _ _ _ _ _ => pts_nil) (fun _ _ _ _ _ => (pe_cal (ok_law_draw T) (hr.mono (by decide)) (by rfl) (pa_cons (pv 0) (pa_cons (pe_op op_add (pv 2) pe_int) pa_nil))))) pa_nil)))
    (pss_cons (ps_set (i := 5) sc_law_spec.nd rfl (Or.inl rfl) (pe_lst pa_nil))
    (pss_cons (ps_for PassesOwn.never rfl (pi_range1 (by rfl) G.range_ (pa_cons (pv 3) pa_nil)) (pg_name (i := 6) sc_law_spec.nd rfl (Or.inr rfl))
    (pss_one (ps_expr (pe_bm PySem.F.plainAttrs_list PySem.F.slot_list_extend PySem.F.type_list_extend mt_extend (pv 5) (pa_cons (pe_lc (own := [("_law_other", 10)]) (g := (gName 10)) (tt := tYes) (te := (tTup (tCons (tVar 6) (tCons (tVar 10) tNil)))) rfl sc_law_spec.nd (pi_range2 (by rfl) G.range_ (pa_cons (pe_op op_add (pv 6) pe_int) (pa_cons (pv 3) pa_nil))) (blkOk_by (own := [("_law_other", 10)]) (by kernel_rfl)) (fun _ _ _ _ _ => (pg_name (i := 10) sc_law_spec.nd rfl (Or.inl rfl))) (fun _ _ _ _ _ => pts_nil) (fun _ _ _ _ _ => (pe_tup (pa_cons (pv 6) (pa_cons (pv 10) pa_nil))))) pa_nil)))))
    (pss_cons (ps_set (i := 7) sc_law_spec.nd rfl (Or.inl rfl) (pe_cal (ok_law_draw T) (hr.mono (by decide)) (by rfl) (pa_cons (pv 0) (pa_cons pe_int pa_nil))))
    (pss_cons (ps_if (pt_cmpR op_eq (pv 7) pe_int (nomark _)) (pss_one (ps_setLc (i := 5) (own := [("_law_pair", 9)]) (g := (gName 9)) (tt := (tTest (tOp rEq (tOp (rIxT K) (tVar 9) (tC (.int 1))) (tOp (rI0 fun i j => .int (i + j)) (tOp (rIxT K) (tVar 9) (tC (.int 0))) (tC (.int 1)))))) (te := (tVar 9)) rfl sc_law_spec.nd rfl rfl (sw_true rfl rfl rfl (by decide +kernel)) (pi_list (pv 5)) (blkOk_by (own := [("_law_pair", 9)]) (by kernel_rfl)) (fun _ _ _ _ _ => (pg_name (i := 9) sc_law_spec.nd rfl (Or.inl rfl))) (fun _ _ _ _ _ => (pts_one (pt_cmpR op_eq (pe_ix ix_tup (pv 9) pe_int (fun _ _ => rfl)) (pe_op op_add (pe_ix ix_tup (pv 9) pe_int (fun _ _ => rfl)) pe_int) (nomark _)))) (fun _ _ _ _ _ => (pv 9)))) pss_nil)
    (pss_cons (ps_if (pt_cmpR op_eq (pv 7) pe_int (nomark _)) (pss_one (ps_setLc (i := 5) (own := [("_law_pair", 9)]) (g := (gName 9)) (tt := (tTest (tOp (rI0 fun i j => .bl (decide (j < i))) (tCall (spDraw K) [] E0 (tCons (tVar 0) (tCons (tC (.int 3)) tNil))) (tC (.int 0))))) (te := (tVar 9)) rfl sc_law_spec.nd rfl rfl (sw_true rfl rfl rfl (by decide +kernel)) (pi_list (pv 5)) (blkOk_by (own := [("_law_pair", 9)]) (by kernel_rfl)) (fun _ _ _ _ _ => (pg_name (i := 9) sc_law_spec.nd rfl (Or.inl rfl))) (fun _ _ _ _ _ => (pts_one (pt_cmpR op_gt (pe_cal (ok_law_draw T) (hr.mono (by decide)) (by rfl) (pa_cons (pv 0) (pa_cons pe_int pa_nil))) pe_int (nomark _)))) (fun _ _ _ _ _ => (pv 9)))) pss_nil)
    (pss_one (ps_ret (pe_tup (pa_cons (pv 4) (pa_cons (pe_callTy call_tuple_of (by rfl) G.tuple_ (by decide +kernel) (pa_cons (pv 5) pa_nil)) pa_nil)))))))))))), ?_⟩
  intro m _ H vs Q k i _ q
  obtain ⟨v, v2, v3, rfl, i1, i2, i3⟩ := isAll3 i
  refine q_asgS k (S := fun r => ∃ n : Nat, 1 ≤ n ∧ n ≤ 5 ∧ r = .d (.int (n : Int))) (es_bind (fun te => tOp (rI0 fun i j => .int (i + j)) (tC (.int 1)) te) (fun _ _ _ _ => rfl) (es_draw (n := 5) (ev_var rfl i1) (ev_var rfl i2) (by decide) (by decide)) fun r v H1 e hr i => by
    obtain ⟨d, hd, rfl⟩ := hr
    exact (ev_ii ev_int (ev_cv i)).s ⟨d + 1, by omega, by omega, by congr 2; omega⟩) fun r vn H1 e1 hr jn => ?_
  obtain ⟨n, hn1, hn5, rfl⟩ := hr
  refine q_asgS e1.ok (es_tupL (S := fun ys => ∃ ms : List Nat, ys = ms.map (fun (x : Nat) => PyData.int (x : Int)) ∧ ms.length = n ∧ ∀ x ∈ ms, x ≤ 3) (es_lcR (n := n) (fun i ys => ∃ ms : List Nat, ys = ms.map (fun (x : Nat) => PyData.int (x : Int)) ∧ ms.length = i ∧ ∀ x ∈ ms, x ≤ 3) (ea_cons (ev_var rfl jn) ea_nil) (by omega) ⟨[], rfl, rfl, fun x hx => by cases hx⟩ fun m' H' i ys hi I hA Q2 q2 => q2 _ rfl (TurnOk.all ?_))) fun r vm H2 e2 hr jm => ?_
  · obtain ⟨ms, rfl, hl, h3⟩ := hA
    intro H3 e3 Q3 q3
    refine es_draw (n := 4) (ev_var rfl (I.is _ _ (i1.mono e1))) (ev_ii (ev_var rfl (I.is _ _ (i3.mono e1))) ev_int) (by decide) (by decide) H3 e3 Q3 fun r v H4 e4 hr i4 => ?_
    obtain ⟨d, hd, rfl⟩ := hr
    refine q3 _ v H4 e4 ⟨_, rfl, ms ++ [d], ?_, by rw [List.length_append, hl]; rfl, fun x hx => ?_⟩ i4
    · show ms.map _ ++ [_] = _
      rw [List.map_append]
      rfl
    · rcases List.mem_append.mp hx with h | h
      · exact h3 x h
      · rw [List.mem_singleton.mp h]
        omega
  obtain ⟨_, rfl, ms, rfl, hml, hm3⟩ := hr
  have e12 := R.trans e1 e2
  refine ⟨by show 0 ≤ sizeLine; exact Nat.zero_le _, fun p hp => ?_⟩
  have hp0 : H p = none := e12.dom p hp
  have s1 : Stp m.lo m (m.hide p) H (upd H2 p (.lst [])) := (Stp.of_r e12).trans (Stp.hide e2.ok hp)
  have hB : p ∉ m.lo := fun z => by
    obtain ⟨o, ho, _⟩ := k.lo p z
    rw [hp0] at ho
    cases ho
  have jn2 : Is (m.hide p) K (upd H2 p (.lst [])) vn (.d (.int (n : Int))) := by rw [show vn = .int (n : Int) from dp_int (jn : Dp K (m.vw H1) vn (.int (n : Int)))]; exact .int _
  have jm2 : Is (m.hide p) K (upd H2 p (.lst [])) vm (.d (dNats ms)) := (show Is m K H2 vm (.d (dNats ms)) from jm).hide e2.ok hp
  refine z_forR1 (B := m.lo) (n := n) s1.ok (ea_cons (ev_var rfl jn2) ea_nil) (by omega) (fun i m' σ' H' => m' = m.hide p ∧ (∃ a b c d e, σ' = [some v, some v2, some v3, some vn, some vm, some (.ref p), a, b, c, d, e]) ∧ Own (m.hide p) K H' p ((pairsTo n i).map dPair) ∧ (pairsTo n i).length ≤ i * 5)
    (fun H3 e3 => ⟨rfl, ⟨_, _, _, _, _, rfl⟩, (own_new (vs := []) e2.ok hp .nil).go e3, Nat.zero_le _⟩) (fun H3 i m' σ' H' hi e3 s3 pv => ?_) fun m' σ' H' s3 pv => ?_
  · obtain ⟨rfl, ⟨a, b, c, d, e, rfl⟩, ow, hlen⟩ := pv
    have vni : ∀ {m' : Md} {H' : Hp}, Is m' K H' vn (.d (.int (n : Int))) := by rw [show vn = .int (n : Int) from dp_int (jn : Dp K (m.vw H1) vn (.int (n : Int)))]; exact .int _
    have hstep : pairsTo n (i + 1) = pairsTo n i ++ (List.range (n - (i + 1))).map fun y => (i, i + 1 + y) := by
      unfold pairsTo
      rw [List.range_succ, List.flatMap_append]
      simp
    refine z_extend (B := m.lo) (ys := ((List.range (n - (i + 1))).map fun y => (i, i + 1 + y)).map dPair) s3.ok (ev_var rfl rfl) ow ((ev_lcR2 (i := i + 1) (n := n) (fun _ => true) (fun y => dPair (i, i + 1 + y)) (ea_cons ((ev_ii (ev_var rfl (.int (i : Int))) ev_int).is (by rfl)) (ea_cons (ev_var rfl vni) ea_nil)) (by omega) (by omega) (fun _ => rfl) (fun _ _ _ _ _ => et_yes rfl) (fun m' H' y hy I _ => (ev_tup (ds := [.int (i : Int), .int (((i + 1 : Nat) : Int) + (y : Int))]) (ea_cons (ev_var rfl (.int (i : Int))) (ea_cons (ev_var rfl (.int _)) ea_nil))).is ?_)).is ?_) (by rw [List.length_map, List.length_map, List.length_map, List.length_range]; omega) hB fun H4 s4 oth o4 => ⟨m.hide p, s3.trans s4, rfl, ⟨_, _, _, _, _, rfl⟩, ?_, ?_⟩
    · show Dx.d (.tuple [.int (i : Int), .int (((i + 1 : Nat) : Int) + (y : Int))]) = Dx.d (.tuple [.int (i : Int), .int ((i + 1 + y : Nat) : Int)])
      rw [Int.natCast_add (i + 1) y]
    · rw [filter_true, List.map_map]
      rfl
    · rw [hstep, List.map_append]
      exact o4
    · rw [hstep, List.length_append, List.length_map, List.length_range]
      omega
  · obtain ⟨rfl, ⟨a, b, c, d, e, rfl⟩, ow, _⟩ := pv
    have s4 : Stp m.lo m (m.hide p) H H' := s1.trans s3
    have e4 : m.R H H' := s4.r
    obtain ⟨_, ws, hw1, hw2⟩ := ow
    have jp : Is m K H' (.ref p) (.tl ((pairsTo n n).map dPair)) := ⟨p, ws, rfl, see k hp0 hw1 rfl, DpAll.mono unhide_vw _ _ hw2⟩
    have jm4 : Is m K H' vm (.d (dNats ms)) := (s3.fix jm2 rfl).unhide
    refine q_asgS e4.ok (S := fun r => ∃ kd : Nat, kd < 3 ∧ r = .d (.int (kd : Int))) (es_draw (n := 3) (ev_var rfl (i1.mono e4)) ev_int (by decide) (by decide)) fun r vk H5 e5 hr jk => ?_
    obtain ⟨kd, hkd, rfl⟩ := hr
    have e05 := R.trans e4 e5
    have hpl : (pairsTo n n).length ≤ 40000 := Nat.le_trans (pairs_ok n hn5).1 (by decide)
    let Pm : L2.St → Hp → Prop := fun σ' H' => ∃ b c d e vp, σ' = [some v, some v2, some v3, some vn, some vm, some vp, b, some vk, c, d, e] ∧ m.R H H' ∧ Is m K H' vm (.d (dNats ms)) ∧ ∃ ts : List (Nat × Nat), Is m K H' vp (.tl (ts.map dPair)) ∧ ts.Sublist (pairsTo n n)
    have kdi : ∀ {H' : Hp}, Is m K H' vk (.d (.int (kd : Int))) := by rw [show vk = .int (kd : Int) from dp_int (jk : Dp K (m.vw H5) vk (.int (kd : Int)))]; exact .int _
    refine q_whenC (m := m) (b := decide ((kd : Int) = 1)) (Pm := Pm) (fun σ' H6 pm => ?_) e05.ok (et_test (ev_eqI (ev_var rfl kdi) ev_int)) (fun cont hb H6 e6 => ?_) fun hb H6 e6 => ⟨_, _, _, _, _, rfl, R.trans e05 e6, (jm4.mono e5).mono e6, pairsTo n n, (jp.mono e5).mono e6, List.Sublist.refl _⟩
    · obtain ⟨b, c, d, e, vp, rfl, e06, jm6, ts, jp6, hsub⟩ := pm
      refine q_whenC (m := m) (b := decide ((kd : Int) = 2)) (Pm := Pm) (fun σ' H7 pm => ?_) e06.ok (et_test (ev_eqI (ev_var rfl kdi) ev_int)) (fun cont hb H7 e7 => ?_) fun hb H7 e7 => ⟨_, _, _, _, _, rfl, R.trans e06 e7, jm6.mono e7, ts, jp6.mono e7, hsub⟩
      · obtain ⟨b, c, d, e, vp, rfl, e07, jm7, ts, jp7, hsub⟩ := pm
        have hw : WebOk ms ts := webOk_sub (by omega) (by omega) hm3 (by rw [hml]; exact hsub)
        exact s_ret e07.ok (ev_tup (ds := [dNats ms, dPairs ts]) (ea_cons (ev_var rfl jm7) (ea_cons (ev_tupL (ev_tlr (ev_var rfl jp7))) ea_nil))) fun vr H8 e8 i8 => q _ vr H8 (R.trans e07 e8) ⟨ms, ts, rfl, hw⟩ i8
      · have e07 := R.trans e06 e7
        have tl := Nat.le_trans hsub.length_le hpl
        refine s_asgS e07.ok (es_lcL (ds := ts.map dPair) (fun i ys => ∃ us : List (Nat × Nat), ys = us.map dPair ∧ us.Sublist (ts.take i)) (ev_tl (ev_var rfl (jp6.mono e7))) (by rw [List.length_map]; exact tl) ⟨[], rfl, List.Sublist.refl _⟩ fun m' H' i dd vv ys hd I hi hA Q2 q2 => q2 _ rfl ?_) fun r vp H8 e8 hr jp8 => ?_
        · obtain ⟨us, rfl, hus⟩ := hA
          rw [List.getElem?_map] at hd
          obtain ⟨pr, hpr, rfl⟩ := Option.map_eq_some_iff.mp hd
          have htk : ts.take (i + 1) = ts.take i ++ [pr] := by
            rw [List.take_add_one, hpr]
            rfl
          intro H9 e9 Q9 q9 q10
          refine es_bind (m := m') (fun te => tOp (rI0 fun i j => .bl (decide (j < i))) te (tC (.int 0))) (fun _ _ _ _ => rfl) (es_draw (n := 3) (ev_var rfl (I.is _ _ (i1.mono e07))) ev_int (by decide) (by decide)) (S' := fun r => ∃ b, r = .d (.bool b)) (fun r v H1 e hr i => by
            obtain ⟨d, hd, rfl⟩ := hr
            exact (ev_ib (g := fun i j => decide (j < i)) (ev_cv i) ev_int).s ⟨_, rfl⟩) H9 e9 _ fun r vb H10 e10 hr ib => ?_
          obtain ⟨bb, rfl⟩ := hr
          refine ⟨bb, dp_bl (ib : Dp K (m'.vw H10) vb (.bool bb)), ?_⟩
          cases bb with
          | false => exact q9 H10 e10 ⟨us, rfl, by rw [htk]; exact hus.trans (List.sublist_append_left _ _)⟩
          | true => exact q10 H10 e10 ((ev_var (r := .d (dPair pr)) rfl ((hi.mono e9).mono e10)).s ⟨_, rfl, us ++ [pr], by show us.map dPair ++ [_] = _; rw [List.map_append]; rfl, by rw [htk]; exact hus.append (List.Sublist.refl _)⟩)
        · obtain ⟨ys, rfl, us, rfl, hus⟩ := hr
          refine cont _ _ ⟨_, _, _, _, _, rfl, R.trans e07 e8, (jm6.mono e7).mono e8, us, jp8, ?_⟩
          rw [List.length_map, List.take_length] at hus
          exact hus.trans hsub
    · have e06 := R.trans e05 e6
      let nxt : PyData → Bool := fun d => match d with | .tuple [.int a, .int b] => decide (b = a + 1) | _ => false
      refine s_asg e06.ok (ev_lcL nxt (fun d => d) (ev_tl (ev_var rfl ((jp.mono e5).mono e6))) (by rw [List.length_map]; exact hpl) (fun _ => rfl) (fun m' H' d u hd I hi => ?_) (fun m' H' d u hd I hi _ => ev_var rfl hi)) fun vp H7 e7 jp7 => cont _ _ ⟨_, _, _, _, _, rfl, R.trans e06 e7, ((jm4.mono e5).mono e6).mono e7, (pairsTo n n).filter (nxt ∘ dPair), ?_, List.filter_sublist ..⟩
      · obtain ⟨pr, _, rfl⟩ := List.mem_map.mp hd
        exact et_test (ev_eqI (ev_ixT (ds := [.int (pr.1 : Int), .int (pr.2 : Int)]) (ev_var rfl hi) ev_int rfl) (ev_ii (ev_ixT (ds := [.int (pr.1 : Int), .int (pr.2 : Int)]) (ev_var rfl hi) ev_int rfl) ev_int))
      · rw [List.map_id', List.filter_map] at jp7
        exact jp7
end
end K20
end
section
set_option linter.all false
set_option maxRecDepth 100000
set_option maxHeartbeats 2000000
set_option autoImplicit false
namespace K20
open PySem PySem.Spec PyProof.Rows L2 LamX NdefX PySem.W
/-! ### readings that make a new list -/
def EvN (m : Md) (K : PySem.W.Frag) (te : TE) (σ : L2.St) (H : Hp) (ds : List PyData) : Prop := ∀ H1, m.R H H1 → ∀ Q : VK, (∀ H2 p vs, m.R H1 H2 → H2 p = none → DpAll K (m.vw H2) vs ds → Q (.ref p) (upd H2 p (.lst vs))) → te σ H1 Q
section
variable {B : List Addr} {m m' : Md} {K : PySem.W.Frag} {σ : L2.St} {H H' : Hp} {ta tb te tx tl : TE} {tA : TA} {v : V} {r : Dx} {a : PyData} {D : Ends} {tz tu : TS} {p : Addr}
theorem EvN.ev {ds : List PyData} (h : EvN m K te σ H ds) : EvD m K te σ H (.tl ds) := fun H1 e Q q => h H1 e Q fun H2 p vs e2 hp hd => by
  have r2 : m.R H2 (upd H2 p (.lst vs)) := R.new e2.ok hp
  exact q _ _ (R.trans e2 r2) ⟨p, vs, rfl, vw_upd e2.ok hp rfl, DpAll.mono r2.ex _ _ hd⟩
theorem EvN.is {ds es : List PyData} (h : EvN m K te σ H ds) (e : ds = es) : EvN m K te σ H es := by rw [← e]; exact h
theorem en_lst {ds : List PyData} (h : EvA m K tA σ H (ds.map .d)) (hl : ds.length ≤ 100000 := by first | decide | simp) : EvN m K (tLst tA) σ H ds := fun H1 e Q q => h H1 e _ fun vs H2 e2 i2 =>
  ⟨by rw [isAll_len i2, List.length_map]; exact Evl.sz_of hl, fun p hp => q H2 p vs e2 hp (isAll_dp i2)⟩
theorem en_rep {n : Nat} (ha : EvD m K ta σ H (.tl [a])) (hb : EvD m K tb σ H (.d (.int (n : Int)))) (hn : n ≤ 100000) : EvN m K (tOp rRep ta tb) σ H (List.replicate n a) := fun H0 e0 Q q => ha H0 e0 _ fun x H1 e1 i1 => hb H1 (R.trans e0 e1) _ fun y H2 e2 i2 => by
  obtain ⟨p, xs, rfl, g1, g2⟩ := i1.mono e2
  rw [show y = .int (n : Int) from dp_int (i2 : Dp K (m.vw H2) y (.int (n : Int)))]
  cases g2 with
  | cons gx gn =>
    rename_i xv xr
    cases gn
    refine ⟨p, (n : Int), [xv], rfl, rfl, vw_sub g1, by omega, by omega, by rw [List.length_singleton, Nat.one_mul, Int.toNat_natCast]; exact Evl.sz_of hn, fun l hl => ?_⟩
    rw [Int.toNat_natCast, flatten_singles]
    exact q _ _ _ (R.trans e1 e2) hl (dpAll_rep gx n)
theorem en_rg1 {n : Nat} (h : EvD m K te σ H (.d (.int (n : Int)))) (hn : n ≤ 1000) : EvN m K (tLstRg (tRg1 te)) σ H ((List.range n).map fun (i : Nat) => PyData.int (i : Int)) := fun H1 e Q q => h H1 e _ fun v H2 e2 i2 => by
  rw [show v = .int (n : Int) from dp_int (i2 : Dp K (m.vw H2) v (.int (n : Int)))]
  refine ⟨(n : Int), rfl, .of_le (by omega) (by omega) (by omega) (by omega), fun l hl => ?_⟩
  have e1 : rgV 0 (n : Int) = ((List.range n).map fun (i : Nat) => (i : Int)).map V.int := by
    unfold rgV
    rw [Int.sub_zero, Int.toNat_natCast, List.map_map]
    refine List.map_congr_left fun x _ => ?_
    show V.int (0 + (x : Int)) = V.int (x : Int)
    rw [Int.zero_add]
  rw [e1]
  refine q _ _ _ e2 hl ?_
  have := ints_dpAll (K := K) (H := m.vw H2) ((List.range n).map fun (i : Nat) => (i : Int))
  rw [List.map_map (l := List.range n) (f := fun (i : Nat) => (i : Int)) (g := PyData.int)] at this
  exact this
theorem en_lstT {ds : List PyData} (h : EvD m K te σ H (.d (.tuple ds))) : EvN m K (tCB (rListOf K) (tCons te tNil)) σ H ds := fun H0 e Q q => h H0 e _ fun v H1 e1 j1 => by
  obtain ⟨p, xs, rfl, g1, g2⟩ := dp_tup j1
  exact ⟨p, xs, rfl, .inr (sqT_mono vw_same g1), fun l hl => q _ _ _ e1 hl g2⟩
/-- x = a new list, hidden from here on -/
theorem z_new {i : Nat} {xs : List PyData} (h : EvN m K te σ H xs) (k : m.ok H) (q : ∀ p H2, Stp B m (m.hide p) H H2 → H p = none → (∀ p2 ys, Own m K H p2 ys → p2 ≠ p ∧ Own (m.hide p) K H2 p2 ys) → Own (m.hide p) K H2 p xs → D.nx (σ.set i (some (.ref p))) H2) : tAsg te (gName i) D σ H := h H (R.refl k) _ fun H2 p vs e2 hp hd =>
  q p _ ((Stp.of_r e2).trans (Stp.hide e2.ok hp)) (e2.dom p hp) (fun p2 ys o => ⟨(fun z => by
    obtain ⟨_, ws, h1, _⟩ := o
    rw [z, e2.dom p hp] at h1
    cases h1), (o.go e2).hide e2.ok hp⟩) (own_new e2.ok hp hd)
/-- x, y = two new lists, both hidden from here on -/
theorem z_par {i j : Nat} {xs ys : List PyData} (k : m.ok H) (h : EvN m K te σ H xs) (h2 : ∀ m' H', Stp B m m' H H' → EvN m' K tx σ H' ys) (q : ∀ p p2 H2, Stp B m ((m.hide p).hide p2) H H2 → H p = none → H p2 = none → p ≠ p2 → Own ((m.hide p).hide p2) K H2 p xs → Own ((m.hide p).hide p2) K H2 p2 ys → D.nx ((σ.set i (some (.ref p))).set j (some (.ref p2))) H2) : tPar i j (tCons te (tCons tx tNil)) D σ H := h H (R.refl k) _ fun H1 p vs e1 hp hd => by
  have s1 : Stp B m (m.hide p) H (upd H1 p (.lst vs)) := (Stp.of_r e1).trans (Stp.hide e1.ok hp)
  refine h2 _ _ s1 _ (R.refl s1.ok) _ fun H2 p2 ws e2 hp2 hd2 => ⟨_, _, rfl, ?_⟩
  have s2 : Stp B m ((m.hide p).hide p2) H (upd H2 p2 (.lst ws)) := (s1.then_r e2).trans (Stp.hide e2.ok hp2)
  have o1 : Own (m.hide p) K (upd H1 p (.lst vs)) p xs := own_new e1.ok hp hd
  refine q p p2 _ s2 (e1.dom p hp) (s1.dom _ (e2.dom p2 hp2)) (fun z => ?_) ((o1.go e2).hide e2.ok hp2) (own_new e2.ok hp2 hd2)
  obtain ⟨_, us, h1, _⟩ := o1.go e2
  rw [z, hp2] at h1
  cases h1
/-- a hidden list handed out -/
theorem own_tl {xs : List PyData} (k : m.ok H) (hp : H p = none) (o : Own (m.hide p) K H' p xs) : Is m K H' (.ref p) (.tl xs) := by
  obtain ⟨_, ws, h1, h2⟩ := o
  exact ⟨p, ws, rfl, see k hp h1 rfl, DpAll.mono unhide_vw _ _ h2⟩
/-- for i, x in enumerate(a tuple), hidden things at will -/
theorem z_forE {i j : Nat} {ds : List PyData} (k : m.ok H) (h : EvD m K tl σ H (.d (.tuple ds))) (Pv : Nat → Md → L2.St → Hp → Prop) (h0 : ∀ H1, m.R H H1 → Pv 0 m σ H1)
    (hs : ∀ H1 n d v m' σ' H0 H', ds[n]? = some d → m.R H H1 → Stp B m m' H1 H0 → m'.R H0 H' → Pv n m' σ' H0 → Is m' K H' v (.d d) → tu { D with nx := NxS B m H1 (Pv (n + 1)), ct := NxS B m H1 (Pv (n + 1)), bk := tz D } ((σ'.set i (some (.int (n : Int)))).set j (some v)) H')
    (hd : ∀ m' σ' H', Stp B m m' H H' → Pv ds.length m' σ' H' → tz D σ' H') : tSeq (tFor (iEnumT K (tCons tl tNil)) (gTup K 2 (gCons (gName i) (gCons (gName j) gNil))) tu) tz D σ H := h H (R.refl k) _ fun v H1 e1 i1 => by
  obtain ⟨p, xs, rfl, g1, g2⟩ := dp_tup i1
  have el := dpAll_len g2
  refine ⟨p, xs, rfl, sqT_mono vw_same g1, ?_⟩
  refine ⟨fun n k σ' H' => k = xs.length - n ∧ n ≤ xs.length ∧ ∃ m', Stp B m m' H1 H' ∧ Pv n m' σ' H', ⟨xs.length, rfl, Nat.zero_le _, m, Stp.refl e1.ok, h0 H1 e1⟩, ?_⟩
  rintro n k' σ' H' ⟨rfl, hn, m', w1, pv⟩
  have g1' : SqT K H' p xs := sqT_mono (w1.ex.trans vw_same) g1
  by_cases hlt : n < xs.length
  · refine .inr ⟨⟨xs, _, g1', List.getElem?_eq_getElem hlt⟩, NxS B m H1 (Pv (n + 1)), fun σ3 H3 q => ⟨xs.length - (n + 1), by omega, rfl, hlt, q⟩, fun x H2 y => ?_⟩
    obtain ⟨T, x2, rfl, hT, rfl, hx⟩ := y
    have hx' := hx xs g1'
    obtain ⟨d, hd1, hd2⟩ := dpAll_get g2 hx'
    have r2 : m'.R H' (upd H' T (.tup [.int (n : Int), x2])) := R.new w1.ok hT
    have i2 : Dp K (m'.vw (upd H' T (.tup [.int (n : Int), x2]))) x2 d := Dp.mono (w1.ex.trans r2.ex) _ _ hd2
    exact ⟨T, _, rfl, .inl (.inl upd_same), rfl, _, _, rfl, _, _, rfl, rfl, hs H1 n d x2 m' σ' H' _ hd1 e1 w1 r2 pv i2⟩
  · have en : n = xs.length := by omega
    subst en
    exact .inl ⟨⟨xs, g1', rfl⟩, hd m' σ' H' ((Stp.of_r e1).trans w1) (by rw [← el]; exact pv)⟩
theorem es_i2 {g : Int → Int → Int} {i : Int} {S : Int → Prop} (ha : EvD m K ta σ H (.d (.int i))) (hb : EvS m K tb σ H (fun r => ∃ j, r = .d (.int j) ∧ S j)) : EvS m K (tCB (rI2 g) (tCons ta (tCons tb tNil))) σ H (fun r => ∃ j, r = .d (.int (g i j)) ∧ S j) := fun H1 e Q q => ha H1 e _ fun x H2 e2 i2 => hb H2 (R.trans e e2) _ fun r y H3 e3 hr i3 => by
  obtain ⟨j, rfl, hj⟩ := hr
  rw [show x = .int i from dp_int (i2 : Dp K (m.vw H2) x (.int i)), show y = .int j from dp_int (i3 : Dp K (m.vw H3) y (.int j))]
  exact ⟨i, j, rfl, q _ _ H3 (R.trans e2 e3) ⟨j, rfl, hj⟩ (.int _)⟩
theorem es_opI {g : Int → Int → Int} {i : Int} {S : Int → Prop} (ha : EvD m K ta σ H (.d (.int i))) (hb : EvS m K tb σ H (fun r => ∃ j, r = .d (.int j) ∧ S j)) : EvS m K (tOp (rI0 fun i j => .int (g i j)) ta tb) σ H (fun r => ∃ j, r = .d (.int (g i j)) ∧ S j) := fun H1 e Q q => ha H1 e _ fun x H2 e2 i2 => hb H2 (R.trans e e2) _ fun r y H3 e3 hr i3 => by
  obtain ⟨j, rfl, hj⟩ := hr
  rw [show x = .int i from dp_int (i2 : Dp K (m.vw H2) x (.int i)), show y = .int j from dp_int (i3 : Dp K (m.vw H3) y (.int j))]
  exact ⟨i, j, rfl, rfl, q _ _ H3 (R.trans e2 e3) ⟨j, rfl, hj⟩ (.int _)⟩
/-- x, y = a new list, anything -/
theorem z_par1 {i j : Nat} {xs : List PyData} {S : Dx → Prop} (k : m.ok H) (h : EvN m K te σ H xs) (h2 : ∀ p H', Stp B m (m.hide p) H H' → EvS (m.hide p) K tx σ H' S) (q : ∀ p r v H2, Stp B m (m.hide p) H H2 → H p = none → Own (m.hide p) K H2 p xs → S r → Is (m.hide p) K H2 v r → D.nx ((σ.set i (some (.ref p))).set j (some v)) H2) : tPar i j (tCons te (tCons tx tNil)) D σ H := h H (R.refl k) _ fun H1 p vs e1 hp hd => by
  have s1 : Stp B m (m.hide p) H (upd H1 p (.lst vs)) := (Stp.of_r e1).trans (Stp.hide e1.ok hp)
  refine h2 _ _ s1 _ (R.refl s1.ok) _ fun r v H2 e2 hS i2 => ⟨_, _, rfl, ?_⟩
  exact q p r v H2 (s1.then_r e2) (e1.dom p hp) ((own_new e1.ok hp hd).go e2) hS i2
theorem q_lcPop {te0 : TE} {sl sh jj ii : Nat} {vs : List Nat} {left : List Int} {hv : V} {S : Nat → Prop} (k : m.ok H) (h0 : EvS m K te0 σ H (fun r => ∃ n : Nat, r = .d (.int (n : Int)) ∧ n ≤ left.length ∧ S n)) (hL : left.length ≤ 1000) (o : Own m K H p (left.map .int)) (hB : p ∉ B) (hBH : ∀ b ∈ B, ∃ u, H b = some u)
    (hw : ∀ x, wipe ((wipe σ vs).set jj (some x)) vs = wipe σ vs) (hsl : ∀ x, ((wipe σ vs).set jj (some x))[sl]? = some (some (.ref p))) (hsh : ∀ x, ((wipe σ vs).set jj (some x))[sh]? = some (some hv)) (ih : Is m K H hv .hand)
    (q : ∀ n D' H' (ys : List Int), S n → Stp B m (m.hide D') H H' → H D' = none → (∀ p2 zs, p2 ≠ p → Own m K H p2 zs → p2 ≠ D' ∧ Own (m.hide D') K H' p2 zs) → ys.length = n → Own (m.hide D') K H' D' (ys.map .int) → tz D (σ.set ii (some (.ref D'))) H') :
    tSeq (tAsg (tLc (iRng1 (tCons te0 tNil)) (gName jj) tYes (tBM K "list" rPopAt (tVar sl) (tCons (tCall (spDraw K) [] L2.E0 (tCons (tVar sh) (tCons (tCB (rLenS K) (tCons (tVar sl) tNil)) tNil))) tNil)) vs) (gName ii)) tz D σ H :=
  x_lcPop (B := B) (Q := fun x H1 => tz D (σ.set ii (some x)) H1) k h0 hL o hB hBH hw hsl hsh ih fun n D' H' ys hn hD s2 oth hl hD' =>
    q n D' H' ys hn s2 hD (fun p2 zs ne oz => ⟨(fun z => by
      obtain ⟨_, us, h3, _⟩ := oz
      rw [z, hD] at h3
      cases h3), oth p2 zs ne oz⟩) hl ⟨List.mem_cons_self .., _, hD', ints_dpAll ys⟩
theorem Stp.vwOut (s : Stp B m m' H H') {G : Hp} : Same (m'.vw G) (m.vw G) := fun b u e => vw_of (vw_sub e) (vw_tbl e) fun z => vw_at e (by
  rcases z with ⟨c, l, z⟩ | z
  · exact .inl ⟨c, l, by rw [s.hd]; exact z⟩
  · exact .inr (s.sub b z))
theorem Stp.out {G : Hp} {d : PyData} (s : Stp B m m' H H') (h : Is m' K G v (.d d)) : Is m K G v (.d d) := Dp.mono s.vwOut _ _ h
theorem Stp.outT {G : Hp} {xs : List PyData} (s : Stp B m m' H H') (h : Is m' K G v (.tl xs)) : Is m K G v (.tl xs) := by
  obtain ⟨a, ws, h0, h1, h2⟩ := h
  exact ⟨a, ws, h0, s.vwOut _ _ h1, DpAll.mono s.vwOut _ _ h2⟩
/-- a hidden list handed out, whatever else is hidden -/
theorem Stp.ownOut {xs : List PyData} (k : m.ok H) (s : Stp B m m' H H') (hp : H p = none) (o : Own m' K H' p xs) : Is m K H' (.ref p) (.tl xs) := by
  obtain ⟨_, ws, h1, h2⟩ := o
  exact ⟨p, ws, rfl, see k hp h1 rfl, DpAll.mono s.vwOut _ _ h2⟩
/-- l.append(x), x told by a relation -/
theorem z_appendS {xs : List PyData} {S : PyData → Prop} (k : m.ok H) (h : EvD m K te σ H (.v (.ref p))) (o : Own m K H p xs) (hv : EvS m K tb σ H (fun r => ∃ a, r = .d a ∧ S a)) (hz : xs.length < 100000) (hB : p ∉ B)
    (q : ∀ a H1, S a → Stp B m m H H1 → (∀ p2 ys, p2 ≠ p → Own m K H p2 ys → Own m K H1 p2 ys) → Own m K H1 p (xs ++ [a]) → D.nx σ H1) : tDrop (tBM K "list" rAppend te (tCons tb tNil)) D σ H := h H (R.refl k) _ fun v H1 e1 i1 => by
  obtain rfl : v = .ref p := i1
  obtain ⟨hp, vs, h1, h2⟩ := o.go e1
  refine ⟨.inl ⟨rfl, vs, SqL.of h1⟩, hv H1 e1 _ fun r y H2 e2 hr i2 => ?_⟩
  obtain ⟨a, rfl, hS⟩ := hr
  obtain ⟨_, vs', h1', h2'⟩ := o.go (R.trans e1 e2)
  refine ⟨p, vs', y, rfl, rfl, h1', Evl.sz_lt (by have := dpAll_len h2'; omega), ?_⟩
  have e12 := R.trans e1 e2
  exact q a _ hS ((Stp.of_r e12).trans (Stp.put e2.ok hp hB)) (fun p2 ys ne ho => (ho.go e12).put e2.ok hp ne) (own_put e2.ok hp (dpAll_app h2' (.cons i2 .nil)))
theorem q_par {r1 r2 : Dx} {i j : Nat} (k : m.ok H) (h1 : EvD m K te σ H r1) (h2 : EvD m K tx σ H r2) (q : ∀ v w H1, m.R H H1 → Is m K H1 v r1 → Is m K H1 w r2 → tz D ((σ.set i (some v)).set j (some w)) H1) : tSeq (tPar i j (tCons te (tCons tx tNil))) tz D σ H := by
  show tCons te (tCons tx tNil) σ H fun vs H1 => ∃ v w, vs = [v, w] ∧ tz D ((σ.set i (some v)).set j (some w)) H1
  refine ea_cons h1 (ea_cons h2 ea_nil) H (R.refl k) _ fun vs H1 e1 i1 => ?_
  obtain ⟨v, w, rfl, iv, iw⟩ := isAll2 i1
  exact ⟨v, w, rfl, q v w H1 e1 iv iw⟩
theorem q_asgP {a b : PyData} {i j : Nat} (k : m.ok H) (h : EvD m K te σ H (.d (.tuple [a, b]))) (q : ∀ v w H1, m.R H H1 → Is m K H1 v (.d a) → Is m K H1 w (.d b) → tz D ((σ.set i (some v)).set j (some w)) H1) : tSeq (tAsg te (gTup K 2 (gCons (gName i) (gCons (gName j) gNil)))) tz D σ H := h H (R.refl k) _ fun v H1 e1 i1 => g_pair i1 fun x y ix iy => q x y H1 e1 ix iy
/-- a loop with break whose rest is told once -/
theorem q_forR1C {ps : List Addr} {tA : TA} {n : Nat} {j : Nat} (Pm : L2.St → Hp → Prop) (q : ∀ σ' H', Pm σ' H' → tz D σ' H') (k : m.ok H) (h : EvA m K tA σ H [.d (.int (n : Int))]) (hn : n ≤ 100000) (Pv : Nat → L2.St → Hp → Prop) (h0 : ∀ H1, m.R H H1 → Pv 0 σ H1)
    (hs : (∀ σ' H', Pm σ' H' → tz D σ' H') → ∀ H1 i σ' H', i < n → m.R H H1 → m.W ps H1 H' → Pv i σ' H' → tu { D with nx := Nx m ps H1 (Pv (i + 1)), ct := Nx m ps H1 (Pv (i + 1)), bk := tz D } (σ'.set j (some (.int (i : Int)))) H')
    (hd : ∀ σ' H', m.W ps H H' → Pv n σ' H' → Pm σ' H') : tSeq (tFor (iRng1 tA) (gName j) tu) tz D σ H := q_forR1 k h hn Pv h0 (hs q) fun σ' H' w p => q σ' H' (hd σ' H' w p)
/-! a test of which the answer is not told -/
def EvTX (m : Md) (tt : TT) (σ : L2.St) (H : Hp) : Prop := ∀ H1, m.R H H1 → ∀ Q : Bool → Hp → Prop, (∀ b H2, m.R H1 H2 → Q b H2) → tt σ H1 Q
theorem tx_of {tt : TT} {b : Bool} (h : EvT m tt σ H b) : EvTX m tt σ H := fun H1 e Q q => h H1 e Q fun H2 e2 => q b H2 e2
theorem tx_test (h : EvS m K te σ H (fun r => ∃ b, r = .d (.bool b))) : EvTX m (tTest te) σ H := fun H1 e Q q => h H1 e _ fun r v H2 e2 hr i2 => by
  obtain ⟨b, rfl⟩ := hr
  exact ⟨b, dp_bl (i2 : Dp K (m.vw H2) v (.bool b)), q b H2 e2⟩
theorem tx_and {t u : TT} (h1 : EvTX m t σ H) (h2 : EvTX m u σ H) : EvTX m (tAnd t u) σ H := fun H1 e Q q => h1 H1 e _ fun b H2 e2 => by
  cases b with
  | false => exact q _ H2 e2
  | true => exact h2 H2 (R.trans e e2) _ fun b H3 e3 => q _ H3 (R.trans e2 e3)
theorem s_whenX {tt : TT} (k : m.ok H) (h : EvTX m tt σ H) (h1 : ∀ H1, m.R H H1 → tu D σ H1) (h2 : ∀ H1, m.R H H1 → D.nx σ H1) : tIfS tt tu tNext D σ H := h H (R.refl k) _ fun b H1 e => by
  cases b with
  | true => exact h1 H1 e
  | false => exact h2 H1 e
/-! displays told by a relation -/
def EvDA (m : Md) (K : PySem.W.Frag) (ta : TA) (σ : L2.St) (H : Hp) (P : List PyData → Prop) : Prop := ∀ H1, m.R H H1 → ∀ Q : List V → Hp → Prop, (∀ xs vs H2, m.R H1 H2 → P xs → IsAll m K H2 vs (xs.map .d) → Q vs H2) → ta σ H1 Q
def LenAll (n : Nat) (S : PyData → Prop) (xs : List PyData) : Prop := xs.length = n ∧ ∀ x ∈ xs, S x
theorem da_nil {S : PyData → Prop} : EvDA m K tNil σ H (LenAll 0 S) := fun H1 e _ q => q [] [] H1 (R.refl e.ok) ⟨rfl, fun x hx => by cases hx⟩ True.intro
theorem da_cons {n : Nat} {S : PyData → Prop} {tr : TA} (h : EvS m K te σ H (fun r => ∃ a, r = .d a ∧ S a)) (hr : EvDA m K tr σ H (LenAll n S)) : EvDA m K (tCons te tr) σ H (LenAll (n + 1) S) := fun H1 e _ q =>
  h H1 e _ fun r v H2 e2 hS i2 => hr H2 (R.trans e e2) _ fun xs vs H3 e3 hP i3 => by
    obtain ⟨a, rfl, hS⟩ := hS
    refine q (a :: xs) (v :: vs) H3 (R.trans e2 e3) ⟨by rw [List.length_cons, hP.1], fun x hx => ?_⟩ ⟨i2.mono e3, i3⟩
    rcases List.mem_cons.mp hx with h | h
    · rw [h]; exact hS
    · exact hP.2 x h
theorem es_lstP {P : List PyData → Prop} {tA : TA} (h : EvDA m K tA σ H P) (hl : ∀ xs, P xs → xs.length ≤ 100000) : EvS m K (tLst tA) σ H (fun r => ∃ xs, r = .tl xs ∧ P xs) := fun H1 e Q q => h H1 e _ fun xs vs H2 e2 hP i2 =>
  ⟨by rw [isAll_len i2, List.length_map]; exact Evl.sz_of (hl xs hP), fun p hp => by
    have r2 : m.R H2 (upd H2 p (.lst vs)) := R.new e2.ok hp
    exact q _ _ _ (R.trans e2 r2) ⟨xs, rfl, hP⟩ ⟨p, vs, rfl, vw_upd e2.ok hp rfl, DpAll.mono r2.ex _ _ (isAll_dp i2)⟩⟩
theorem es_ixP {n : Nat} {S : PyData → Prop} (h : EvS m K te σ H (fun r => ∃ xs, r = .tl xs ∧ LenAll n S xs)) (hi : EvS m K tx σ H (fun r => ∃ d : Nat, d < n ∧ r = .d (.int (d : Int)))) : EvS m K (tOp (rIxL K) te tx) σ H (fun r => ∃ a, r = .d a ∧ S a) := fun H1 e Q q => h H1 e _ fun r v H2 e2 hS i2 => hi H2 (R.trans e e2) _ fun r2 v2 H3 e3 hS2 i3 => by
  obtain ⟨xs, rfl, hl, hall⟩ := hS
  obtain ⟨d, hd, rfl⟩ := hS2
  obtain ⟨p, ws, rfl, h1, h2⟩ := rl_at (i2.mono e3).rl_of_tl
  have hx : xs[d]? = some xs[d] := List.getElem?_eq_getElem (by omega)
  obtain ⟨w, h3, h4⟩ := atI_dp h2 (atI_nat hx)
  rw [show v2 = .int (d : Int) from dp_int (i3 : Dp K (m.vw H3) v2 (.int (d : Int)))]
  exact ⟨p, ws, (d : Int), w, rfl, rfl, h1, h3, q _ w H3 (R.trans e2 e3) ⟨_, rfl, hall _ (List.getElem_mem ..)⟩ h4⟩
theorem es_tupP {P : List PyData → Prop} {tA : TA} (h : EvDA m K tA σ H P) (hl : ∀ xs, P xs → xs.length ≤ 100000) : EvS m K (tTup tA) σ H (fun r => ∃ xs, r = .d (.tuple xs) ∧ P xs) := fun H1 e Q q => h H1 e _ fun xs vs H2 e2 hP i2 =>
  ⟨by rw [isAll_len i2, List.length_map]; exact Evl.sz_of (hl xs hP), fun p hp => by
    have r2 : m.R H2 (upd H2 p (.tup vs)) := R.new e2.ok hp
    exact q _ _ _ (R.trans e2 r2) ⟨xs, rfl, hP⟩ (.tup (SqT.of (vw_upd e2.ok hp rfl)) (DpAll.mono r2.ex _ _ (isAll_dp i2)))⟩
theorem da_one {S : PyData → Prop} (h : EvS m K te σ H (fun r => ∃ a, r = .d a ∧ S a)) : EvDA m K (tCons te tNil) σ H (fun xs => ∃ a, xs = [a] ∧ S a) := fun H1 e _ q =>
  h H1 e _ fun r v H2 e2 hS i2 => by
    obtain ⟨a, rfl, hS⟩ := hS
    exact q [a] [v] H2 e2 ⟨a, rfl, hS⟩ ⟨i2, True.intro⟩
theorem da_put {S : PyData → Prop} {P : List PyData → Prop} {tr : TA} (h : EvS m K te σ H (fun r => ∃ a, r = .d a ∧ S a)) (hr : EvDA m K tr σ H P) : EvDA m K (tCons te tr) σ H (fun xs => ∃ a ys, xs = a :: ys ∧ S a ∧ P ys) := fun H1 e _ q =>
  h H1 e _ fun r v H2 e2 hS i2 => hr H2 (R.trans e e2) _ fun xs vs H3 e3 hP i3 => by
    obtain ⟨a, rfl, hS⟩ := hS
    exact q (a :: xs) (v :: vs) H3 (R.trans e2 e3) ⟨a, xs, rfl, hS, hP⟩ ⟨i2.mono e3, i3⟩
theorem EvS.imp {S S' : Dx → Prop} (h : EvS m K te σ H S) (hi : ∀ r, S r → S' r) : EvS m K te σ H S' := fun H1 e Q q => h H1 e Q fun r v H2 e2 s i => q r v H2 e2 (hi r s) i
end
end K20
end
section
set_option linter.all false
set_option maxRecDepth 100000
set_option maxHeartbeats 2000000
set_option autoImplicit false
namespace K20
open PySem PySem.Spec PyProof.Rows L2 LamX NdefX PySem.W
/-! ### _law_row -/
def standAfter (ms : List Nat) (st : Stand) (row : List Ask) : Stand := row.foldl (fun st a => afterM ms st (askDeed a)) st
theorem rowOk_snoc (ms : List Nat) (a : Ask) : ∀ (l : List Ask) (st : Stand), rowOkFrom ms st (l ++ [a]) = (rowOkFrom ms st l && askOk ms (standAfter ms st l) a)
  | [], st => by
    show (askOk ms st a && true) = (true && askOk ms st a)
    rw [Bool.and_true, Bool.true_and]
  | b :: l, st => by
    show (askOk ms st b && rowOkFrom ms (afterM ms st (askDeed b)) (l ++ [a])) = ((askOk ms st b && rowOkFrom ms (afterM ms st (askDeed b)) l) && _)
    rw [rowOk_snoc ms a l, Bool.and_assoc]
    rfl
theorem standAfter_snoc (ms : List Nat) (a : Ask) (l : List Ask) (st : Stand) : standAfter ms st (l ++ [a]) = afterM ms (standAfter ms st l) (askDeed a) := by
  unfold standAfter
  rw [List.foldl_append]
  rfl
theorem standAfter_len (ms : List Nat) : ∀ (l : List Ask) (st : Stand), (standAfter ms st l).length = st.length
  | [], st => rfl
  | b :: l, st => by
    show (standAfter ms (afterM ms st (askDeed b)) l).length = _
    rw [standAfter_len ms l, after_len]
def heldL (st : Stand) : List PyData := st.map fun p => PyData.bool p.1
theorem heldL_after (ms : List Nat) (st : Stand) (a : Ask) : heldL (afterM ms st (askDeed a)) = (heldL st).set a.2 (.bool a.1) := by
  obtain ⟨g, r⟩ := a
  unfold heldL afterM
  cases g <;> simp [List.map_set, askDeed, roomD, hereM]
theorem heldL_get {st : Stand} {r : Nat} (h : r < st.length) : (heldL st)[r]? = some (.bool (at_ st r).1) := by
  unfold heldL
  rw [List.getElem?_map, at_get h]
  rfl
theorem ifInts {b : Bool} : (PyData.str (if b = true then ("back" : Str) else "give")) = .str (word !b) := by cases b <;> rfl
section
variable {P : Program} {w : World} {K : PySem.W.Frag} {mg : Str → Option Value} {base : Heap}
abbrev spLawRow (K : PySem.W.Frag) : Sp := SpP K (fun a : List Nat × Nat => [.hand, .d (.int (a.1.length : Int)), .d (.int (a.2 : Int))]) (fun a => 1 ≤ a.1.length ∧ a.1.length ≤ 5 ∧ a.2 ≤ 100) (fun a r => ∃ row : List Ask, r = .d (dRow row) ∧ row.length = a.2 ∧ rowOk a.1 row = true)
theorem sc_law_row : FnScope ["_law_hand_here", "_law_rooms", "_law_steps", "_law_held", "_law_found", "_law_turn", "_law_room"] ["_law_hand_here", "_law_rooms", "_law_steps"] (defScope s_law_row) := ⟨rfl, rfl, rfl, by decide +kernel, rfl, by decide +kernel, by decide +kernel⟩
theorem ok_law_row (T : Top K mg) : Cal P w K mg base 2 "_law_row" ["_law_hand_here", "_law_rooms", "_law_steps"] (spLawRow K) := by
  have G := T.G
  refine T.d_law_row.cal sc_law_row (fun _ _ _ _ _ _ us hl => match us, hl with | [_, _, _], _ => rfl) (fun _ => rfl) (fun f cdv A outer s H0 E hr => ?_)
  refine ⟨_, (pss_cons (ps_par (i := 3) (j := 4) rfl sc_law_row.nd rfl rfl (by decide) rfl rfl (pa_cons (pe_op op_rep (pe_lst (pa_cons pe_bl pa_nil)) (pv 1)) (pa_cons (pe_lst pa_nil) pa_nil)) (by rfl))
    (pss_cons (ps_for PassesOwn.never rfl (pi_range1 (by rfl) G.range_ (pa_cons (pv 2) pa_nil)) (pg_name (i := 5) sc_law_row.nd rfl (Or.inl rfl))
    (pss_cons (ps_set (i := 6) sc_law_row.nd rfl (Or.inl rfl) (pe_cal (ok_law_draw T) (hr.mono (by decide)) (by rfl) (pa_cons (pv 0) (pa_cons (pv 1) pa_nil))))
    (pss_cons (ps_expr (pe_bm PySem.F.plainAttrs_list PySem.F.slot_list_append PySem.F.type_list_append mt_append (pv 4) (pa_cons (pe_tup (pa_cons (pe_ifExp (pt_val (pe_ix ix_list (pv 3) (pv 6) (fun _ _ => rfl))) pe_str pe_str) (pa_cons (pv 6) pa_nil))) pa_nil)))
    (pss_one (ps_asg (pe_not (pe_ix ix_list (pv 3) (pv 6) (fun _ _ => rfl))) (pg_sub (pv 3) (pv 6) set_list))))))
    (pss_one (ps_ret (pe_callTy call_tuple_of (by rfl) G.tuple_ (by decide +kernel) (pa_cons (pv 4) pa_nil)))))), ?_⟩
  intro m ⟨ms, n⟩ H vs Q k i ⟨hl1, hl5, hn⟩ q
  obtain ⟨v, v2, v3, rfl, i1, i2, i3⟩ := isAll3 (show IsAll m K H vs [.hand, .d (.int (ms.length : Int)), .d (.int (n : Int))] from i)
  simp only at hl1 hl5 hn
  replace q : ∀ r v H', m.R H H' → (∃ row : List Ask, r = .d (dRow row) ∧ row.length = n ∧ rowOk ms row = true) → Is m K H' v r → Q v H' := q
  show tSeq (tPar 3 4 _) _ _ _ _
  refine z_par (B := m.lo) (xs := List.replicate ms.length (.bool false)) (ys := []) k (en_rep (ev_lst (ds := [.bool false]) (ea_cons ev_bl ea_nil)) (ev_var rfl i2) (by omega)) (fun m' H' s => en_lst (ds := []) ea_nil) fun p p2 H2 s2 hp hp2 ne o1 o2 => ?_
  have hB : p ∉ m.lo := fun z => by
    obtain ⟨o, ho, _⟩ := k.lo p z
    rw [hp] at ho
    cases ho
  have hB2 : p2 ∉ m.lo := fun z => by
    obtain ⟨o, ho, _⟩ := k.lo p2 z
    rw [hp2] at ho
    cases ho
  let mm := (m.hide p).hide p2
  refine z_forR1 (B := m.lo) (m := mm) (n := n) s2.ok (ea_cons (ev_var rfl (s2.is i3)) ea_nil) (by omega) (fun i m' σ' H' => m' = mm ∧ (∃ a b, σ' = [some v, some v2, some v3, some (.ref p), some (.ref p2), a, b]) ∧ ∃ row : List Ask, row.length = i ∧ rowOk ms row = true ∧ Own mm K H' p (heldL (standAfter ms (begunM ms) row)) ∧ Own mm K H' p2 (row.map dAsk))
    (fun H3 e3 => ⟨rfl, ⟨_, _, rfl⟩, [], rfl, rfl, ?_, o2.go e3⟩) (fun H3 i m' σ' H' hi e3 s3 pv => ?_) fun m' σ' H' s3 pv => ?_
  · have := o1.go e3
    rw [show heldL (standAfter ms (begunM ms) []) = List.replicate ms.length (.bool false) by unfold heldL standAfter begunM; simp]
    exact this
  · obtain ⟨rfl, ⟨a, b, rfl⟩, row, hlen, hok, ow, ow2⟩ := pv
    have s4 : Stp m.lo m mm H H' := (s2.then_r e3).trans s3
    refine q_asgS s4.ok (es_draw (n := ms.length) (ev_var rfl (s4.is i1)) (ev_var rfl (s4.is i2)) hl1 (by omega)) fun r vr H5 e5 hr jr => ?_
    obtain ⟨d, hd, rfl⟩ := hr
    have hsl : (standAfter ms (begunM ms) row).length = ms.length := by rw [standAfter_len]; unfold begunM; rw [List.length_replicate]
    have hget := heldL_get (st := standAfter ms (begunM ms) row) (r := d) (by omega)
    have hheld : ∀ {H6 : Hp} {σ : L2.St}, Is mm K H6 vr (.d (.int (d : Int))) → σ[3]? = some (some (.ref p)) → σ[6]? = some (some vr) → Own mm K H6 p (heldL (standAfter ms (begunM ms) row)) → EvD mm K (tOp (rIxL K) (tVar 3) (tVar 6)) σ H6 (.d (.bool (at_ (standAfter ms (begunM ms) row) d).1)) := fun e h3 h6 o => ev_ixL (EvD.to_rl (ev_var h3 rfl) o) (ev_var h6 e) (atI_nat hget)
    refine z_append (B := m.lo) (a := dAsk (!(at_ (standAfter ms (begunM ms) row) d).1, d)) e5.ok (ev_var rfl rfl) (ow2.go e5) ((ev_tup (ds := [.str (if (at_ (standAfter ms (begunM ms) row) d).1 = true then ("back" : Str) else "give"), .int (d : Int)]) (ea_cons ?_ (ea_cons (ev_var rfl jr) ea_nil))).is ?_) (by rw [List.length_map]; omega) hB2 fun H6 s6 oth o6 => ?_
    · refine ev_if (et_B (hheld jr rfl rfl (ow.go e5))) (fun hb => ?_) fun hb => ?_
      · rw [if_pos hb]; exact ev_str
      · rw [if_neg (by rw [hb]; decide)]; exact ev_str
    · rw [ifInts]
      rfl
    · have ow6 := oth p _ ne (ow.go e5)
      refine z_set (B := m.lo) (a := .bool (!(at_ (standAfter ms (begunM ms) row) d).1)) (j := d) s6.ok (ev_var rfl rfl) ow6 (ev_var rfl (s6.fix jr rfl)) (ev_notV (hheld (s6.fix jr rfl) rfl rfl ow6)) ?_ hB fun H7 s7 oth7 o7 => ?_
      · unfold heldL
        rw [List.length_map]
        omega
      · refine ⟨mm, ((s3.then_r e5).trans s6).trans s7, rfl, ⟨_, _, rfl⟩, row ++ [(!(at_ (standAfter ms (begunM ms) row) d).1, d)], by rw [List.length_append, hlen]; rfl, ?_, ?_, ?_⟩
        · unfold rowOk at hok ⊢
          rw [rowOk_snoc, hok]
          unfold askOk
          simp only [Bool.true_and, Bool.and_eq_true, decide_eq_true_eq, beq_iff_eq, and_true]
          exact hd
        · rw [standAfter_snoc, heldL_after]
          exact o7
        · rw [List.map_append]
          exact oth7 p2 _ (Ne.symm ne) o6
  · obtain ⟨rfl, ⟨a, b, rfl⟩, row, hlen, hok, ow, ow2⟩ := pv
    have s4 : Stp m.lo m mm H H' := s2.trans s3
    refine s_ret s4.ok (ev_tupL (EvD.to_rl (ev_var rfl rfl) ow2)) fun vr H5 e5 i5 => q _ vr H5 (s4.then_r e5).r ⟨row, rfl, hlen, hok⟩ i5.unhide.unhide
/-! ### _law_late -/
abbrev spLate (K : PySem.W.Frag) : Sp := SpP K (fun a : Wb × Nat => [.hand, .d (dSpec a.1.1 a.1.2), .d (.int (a.2 : Int))]) (fun a => WebOk a.1.1 a.1.2 ∧ 1 ≤ a.2 ∧ a.2 ≤ 1000) (fun a r => ∃ late : Late, r = .d (dLate late))
theorem sc_law_late : FnScope ["_law_hand_here", "_law_spec_here", "_law_k", "_law_odd"] ["_law_hand_here", "_law_spec_here", "_law_k"] (defScope s_law_late) := ⟨rfl, rfl, rfl, by decide +kernel, rfl, by decide +kernel, by decide +kernel⟩
theorem ok_law_late (T : Top K mg) : Cal P w K mg base 2 "_law_late" ["_law_hand_here", "_law_spec_here", "_law_k"] (spLate K) := by
  have G := T.G
  refine T.d_law_late.cal sc_law_late (fun _ _ _ _ _ _ us hl => match us, hl with | [_, _, _], _ => rfl) (fun _ => rfl) (fun f cdv A outer s H0 E hr => ?_)
  refine ⟨_, (pss_cons (ps_if (pt_cmpR op_gt (pe_cal (ok_law_draw T) (hr.mono (by decide)) (by rfl) (pa_cons (pv 0) (pa_cons pe_int pa_nil))) pe_int (nomark _)) (pss_one (ps_ret pe_non)) pss_nil)
    (pss_cons (ps_set (i := 3) sc_law_late.nd rfl (Or.inl rfl) (pe_ix ix_list (pe_lst (pa_cons pe_non (pa_cons pe_str (pa_cons pe_bl (pa_cons (pv 2) (pa_cons (pe_un un_neg pe_int) (pa_cons (pe_tup (pa_cons pe_int pa_nil)) (pa_cons (pe_cal (ok_law_draw T) (hr.mono (by decide)) (by rfl) (pa_cons (pv 0) (pa_cons (pv 2) pa_nil))) (pa_cons (pe_cal (ok_law_draw T) (hr.mono (by decide)) (by rfl) (pa_cons (pv 0) (pa_cons (pv 2) pa_nil))) (pa_cons (pe_op op_pow pe_int pe_int) (pa_cons (pe_lst pa_nil) pa_nil))))))))))) (pe_cal (ok_law_draw T) (hr.mono (by decide)) (by rfl) (pa_cons (pv 0) (pa_cons pe_int pa_nil))) (fun _ _ => rfl)))
    (pss_one (ps_ret (pe_tup (pa_cons (pe_cal (ok_law_draw T) (hr.mono (by decide)) (by rfl) (pa_cons (pv 0) (pa_cons (pe_callB call_len_seq (by rfl) G.len_ (by decide +kernel) (pa_cons (pe_ix ix_tup (pv 1) pe_int (fun _ _ => rfl)) pa_nil)) pa_nil))) (pa_cons (pe_ix ix_list (pe_lst (pa_cons pe_int (pa_cons pe_int (pa_cons pe_int (pa_cons pe_int (pa_cons (pe_cal (ok_law_draw T) (hr.mono (by decide)) (by rfl) (pa_cons (pv 0) (pa_cons pe_int pa_nil))) pa_nil)))))) (pe_cal (ok_law_draw T) (hr.mono (by decide)) (by rfl) (pa_cons (pv 0) (pa_cons pe_int pa_nil))) (fun _ _ => rfl)) (pa_cons (pv 3) pa_nil)))))))), ?_⟩
  intro m ⟨⟨ms, ts⟩, n⟩ H vs Q k i ⟨hw, hn1, hn⟩ q
  obtain ⟨v, v2, v3, rfl, i1, i2, i3⟩ := isAll3 (show IsAll m K H vs [.hand, .d (dSpec ms ts), .d (.int (n : Int))] from i)
  simp only at hw hn1 hn
  have hw5 := hw.n5
  have hw1 := hw.n1
  replace q : ∀ r v H', m.R H H' → (∃ late : Late, r = .d (dLate late)) → Is m K H' v r → Q v H' := q
  have sn : ∀ {te : TE} {σ : L2.St} {H : Hp} {a : PyData}, EvD m K te σ H (.d a) → EvS m K te σ H (fun r => ∃ a, r = .d a ∧ True) := fun h => h.s ⟨_, rfl, True.intro⟩
  have nt : ∀ {te : TE} {σ : L2.St} {H : Hp} {j : Nat}, EvD m K te σ H (.d (.int (j : Int))) → EvS m K te σ H (fun r => ∃ a, r = .d a ∧ ∃ j : Nat, a = .int (j : Int)) := fun h => h.s ⟨_, rfl, _, rfl⟩
  refine s_bind (fun te => tSeq (tIfS (tTest (tOp (rI0 fun i j => .bl (decide (j < i))) te (tC (.int 0)))) (tRet (tC .non)) tNext) _) (fun _ _ _ _ => rfl) k (es_draw (n := 3) (ev_var rfl i1) ev_int (by decide) (by decide)) fun r vd H1 e1 hr jd => ?_
  obtain ⟨d, hd, rfl⟩ := hr
  refine q_when (b := decide ((0 : Int) < (d : Int))) e1.ok (et_test (ev_ib (g := fun i j => decide (j < i)) (ev_cv jd) ev_int)) (fun hb H2 e2 => s_ret (K := K) e2.ok ev_non fun vr H3 e3 i3 => q _ vr H3 (R.trans (R.trans e1 e2) e3) ⟨none, rfl⟩ i3) fun hb H2 e2 => ?_
  have e12 := R.trans e1 e2
  have dr : ∀ {σ : L2.St} {H3 : Hp} {n : Nat} {tn : TE}, m.R H H3 → σ[0]? = some (some v) → EvD m K tn σ H3 (.d (.int (n : Int))) → 1 ≤ n → n ≤ 1000 → EvS m K (tCall (spDraw K) [] L2.E0 (tCons (tVar 0) (tCons tn tNil))) σ H3 (fun r => ∃ d : Nat, d < n ∧ r = .d (.int (d : Int))) := fun e h0 hn h1 h2 => es_draw (ev_var h0 (i1.mono e)) hn h1 h2
  refine q_asgS e12.ok (es_ixP (n := 10) (S := fun _ => True) (es_lstP (da_cons (sn ev_non) (da_cons (sn ev_str) (da_cons (sn ev_bl) (da_cons (sn (ev_var rfl (i3.mono e12))) (da_cons (sn (ev_neg ev_int)) (da_cons (sn (ev_tup (ds := [.int 0]) (ea_cons ev_int ea_nil)))
    (da_cons ((dr e12 rfl (ev_var rfl (i3.mono e12)) hn1 hn).imp fun r ⟨d, _, h⟩ => ⟨_, h, True.intro⟩) (da_cons ((dr e12 rfl (ev_var rfl (i3.mono e12)) hn1 hn).imp fun r ⟨d, _, h⟩ => ⟨_, h, True.intro⟩) (da_cons (sn (ev_iC (g := fun i j => i ^ j.toNat) (i := 10) (j := 39) ev_int ev_int ⟨by decide, by decide, by decide⟩)) (da_cons (sn (ev_tl (ev_lst (ds := []) ea_nil))) da_nil)))))))))) fun xs h => by rw [h.1]; decide) (dr e12 rfl ev_int (by decide) (by decide))) fun r vo H3 e3 hr jo => ?_
  obtain ⟨o, rfl, _⟩ := hr
  have e13 := R.trans e12 e3
  refine s_retS e13.ok (es_tupP (da_put (S := fun a => ∃ j : Nat, a = .int (j : Int)) ((dr e13 rfl (n := ms.length) ((ev_lenT (ev_ixT (ds := [dNats ms, dPairs ts]) (ev_var rfl (i2.mono e13)) ev_int rfl)).is (by rw [List.length_map])) (by omega) (by omega)).imp fun r ⟨d, _, h⟩ => ⟨_, h, d, rfl⟩) (da_put (S := fun a => ∃ j : Nat, a = .int (j : Int)) (es_ixP (n := 5) (es_lstP (da_cons (nt (j := 0) ev_int) (da_cons (nt (j := 1) ev_int) (da_cons (nt (j := 3) ev_int) (da_cons (nt (j := 59) ev_int) (da_cons ((dr e13 rfl (n := 60) ev_int (by decide) (by decide)).imp fun r ⟨d, _, h⟩ => ⟨_, h, d, rfl⟩) da_nil))))) fun xs h => by rw [h.1]; decide) (dr e13 rfl (n := 5) ev_int (by decide) (by decide))) (da_one (S := fun a => a = o) ((ev_var rfl jo).s ⟨_, rfl, rfl⟩)))) fun xs h => ?_) fun r vr H4 e4 hr i4 => ?_
  · obtain ⟨a, ys, rfl, _, b, zs, rfl, _, c, rfl, _⟩ := h
    simp
  · obtain ⟨_, rfl, a, ys, rfl, ⟨ja, rfl⟩, b, zs, rfl, ⟨jb, rfl⟩, c, rfl, hc⟩ := hr
    rw [hc] at i4
    exact q _ vr H4 (R.trans e13 e4) ⟨some (ja, jb, o), rfl⟩ i4
end
end K20
end
section
set_option linter.all false
set_option maxRecDepth 100000
set_option maxHeartbeats 2000000
set_option autoImplicit false
namespace K20
open PySem PySem.Spec PyProof.Rows L2 LamX NdefX PySem.W
/-! ### _law_turns -/
def dDyes : Option (List (List Int)) → PyData
  | some ds => .tuple (ds.map dInts)
  | none => .none
def DyLen (ms : List Nat) (dy : Option (List (List Int))) : Prop := ∀ ds, dy = some ds → ds.length = ms.length ∧ ∀ r (h : r < ms.length), (ds.getD r []).length = ms.getD r 0 + 1
section
variable {P : Program} {w : World} {K : PySem.W.Frag} {mg : Str → Option Value} {base : Heap}
abbrev spTurns (K : PySem.W.Frag) : Sp := SpP K (fun a : Wb × Nat × Option (List (List Int)) => [.hand, .d (dSpec a.1.1 a.1.2), .d (.int (a.2.1 : Int)), .d (dDyes a.2.2)]) (fun a => WebOk a.1.1 a.1.2 ∧ 1 ≤ a.2.1 ∧ a.2.1 ≤ 200 ∧ DyLen a.1.1 a.2.2) (fun a r => ∃ tn : List (List Int), r = .d (.list (tn.map dInts)) ∧ RowsOk a.1.1.length tn)
theorem sc_law_turns : FnScope ["_law_hand_here", "_law_spec_here", "_law_k", "_law_dyes", "_law_found", "_law_kind", "_law_room", "_law_memory", "_law_left", "_law_row_here", "_law_turn"] ["_law_hand_here", "_law_spec_here", "_law_k", "_law_dyes"] (defScope s_law_turns) := ⟨rfl, rfl, rfl, by decide +kernel, rfl, by decide +kernel, by decide +kernel⟩
theorem ok_law_turns (T : Top K mg) : Cal P w K mg base 2 "_law_turns" ["_law_hand_here", "_law_spec_here", "_law_k", "_law_dyes"] (spTurns K) := by
  have G := T.G
  refine T.d_law_turns.cal sc_law_turns (fun _ _ _ _ _ _ us hl => match us, hl with | [_, _, _, _], _ => rfl) (fun _ => rfl) (fun f cdv A outer s H0 E hr => ?_)
  refine ⟨_, (pss_cons (ps_par (i := 4) (j := 5) rfl sc_law_turns.nd rfl rfl (by decide) rfl rfl (pa_cons (pe_lst pa_nil) (pa_cons (pe_cal (ok_law_draw T) (hr.mono (by decide)) (by rfl) (pa_cons (pv 0) (pa_cons pe_int pa_nil))) pa_nil)) (by rfl))
    (pss_cons (ps_for PassesOwn.never rfl (pi_enumT (by rfl) G.enumerate_ (pa_cons (pe_ix ix_tup (pv 1) pe_int (fun _ _ => rfl)) pa_nil)) (pg_tup rfl (pgs_cons (pg_name (i := 6) sc_law_turns.nd rfl (Or.inl rfl)) (pgs_cons (pg_name (i := 7) sc_law_turns.nd rfl (Or.inl rfl)) pgs_nil)))
    (pss_cons (ps_set (i := 8) sc_law_turns.nd rfl (Or.inr rfl) (pe_listRg rfl (by rfl) G.list_ (prg_1 (by rfl) G.range_ (pv 2))))
    (pss_cons (ps_setLc (i := 9) (own := [("_law_turn", 10)]) (g := (gName 10)) (tt := tYes) (te := (tBM K "list" rPopAt (tVar 8) (tCons (tCall (spDraw K) [] E0 (tCons (tVar 0) (tCons (tCB (rLenS K) (tCons (tVar 8) tNil)) tNil))) tNil))) rfl sc_law_turns.nd rfl rfl (sw_true rfl rfl rfl (by decide +kernel)) (pi_range1 (by rfl) G.range_ (pa_cons (pe_callB (call_min2 rfl) (by rfl) G.min_ (by decide +kernel) (pa_cons (pv 2) (pa_cons (pe_op op_add (pe_op op_add (pv 7) pe_int) (pe_cal (ok_law_draw T) (hr.mono (by decide)) (by rfl) (pa_cons (pv 0) (pa_cons pe_int pa_nil)))) pa_nil))) pa_nil)) (blkOk_by (own := [("_law_turn", 10)]) (by kernel_rfl)) (fun _ _ _ _ _ => (pg_name (i := 10) sc_law_turns.nd rfl (Or.inl rfl))) (fun _ _ _ _ _ => pts_nil) (fun _ _ _ _ _ => (pe_bm PySem.F.plainAttrs_list PySem.F.slot_list_pop PySem.F.type_list_pop mt_popAt (pv 8) (pa_cons (pe_cal (ok_law_draw T) (hr.mono (by decide)) (by rfl) (pa_cons (pv 0) (pa_cons (pe_callB call_len_seq (by rfl) G.len_ (by decide +kernel) (pa_cons (pv 8) pa_nil)) pa_nil))) pa_nil))))
    (pss_cons (ps_if (PW.pt (pw_and (pt_cmpR op_notN (pv 3) pe_non (nomark _)) (pw_and1 (pt_cmpR op_gt (pv 5) pe_int (nomark _))))) (pss_cons (ps_set (i := 8) sc_law_turns.nd rfl (Or.inr rfl) (pe_callTy call_list_of (by rfl) G.list_ (by decide +kernel) (pa_cons (pe_ix ix_tup (pv 3) (pv 6) (fun _ _ => rfl)) pa_nil)))
    (pss_cons (ps_setLc (i := 9) (own := [("_law_turn", 10)]) (g := (gName 10)) (tt := tYes) (te := (tBM K "list" rPopAt (tVar 8) (tCons (tCall (spDraw K) [] E0 (tCons (tVar 0) (tCons (tCB (rLenS K) (tCons (tVar 8) tNil)) tNil))) tNil))) rfl sc_law_turns.nd rfl rfl (sw_true rfl rfl rfl (by decide +kernel)) (pi_range1 (by rfl) G.range_ (pa_cons (pe_op op_add (pv 7) pe_int) pa_nil)) (blkOk_by (own := [("_law_turn", 10)]) (by kernel_rfl)) (fun _ _ _ _ _ => (pg_name (i := 10) sc_law_turns.nd rfl (Or.inl rfl))) (fun _ _ _ _ _ => pts_nil) (fun _ _ _ _ _ => (pe_bm PySem.F.plainAttrs_list PySem.F.slot_list_pop PySem.F.type_list_pop mt_popAt (pv 8) (pa_cons (pe_cal (ok_law_draw T) (hr.mono (by decide)) (by rfl) (pa_cons (pv 0) (pa_cons (pe_callB call_len_seq (by rfl) G.len_ (by decide +kernel) (pa_cons (pv 8) pa_nil)) pa_nil))) pa_nil))))
    (pss_one (ps_if (PW.pt (pw_and (pt_cmpR op_eq (pv 5) pe_int (nomark _)) (pw_and1 (pt_cmpR op_eq (pe_cal (ok_law_draw T) (hr.mono (by decide)) (by rfl) (pa_cons (pv 0) (pa_cons pe_int pa_nil))) pe_int (nomark _))))) (pss_one (ps_expr (pe_bm PySem.F.plainAttrs_list PySem.F.slot_list_append PySem.F.type_list_append mt_append (pv 9) (pa_cons (pe_cal (ok_law_draw T) (hr.mono (by decide)) (by rfl) (pa_cons (pv 0) (pa_cons (pv 2) pa_nil))) pa_nil)))) pss_nil)))) pss_nil)
    (pss_one (ps_expr (pe_bm PySem.F.plainAttrs_list PySem.F.slot_list_append PySem.F.type_list_append mt_append (pv 4) (pa_cons (pe_callTy call_tuple_of (by rfl) G.tuple_ (by decide +kernel) (pa_cons (pv 9) pa_nil)) pa_nil))))))))
    (pss_one (ps_ret (pv 4))))), ?_⟩
  intro m ⟨⟨ms, ts⟩, n, dy⟩ H vs Q k i0 ⟨hw, hn1, hn, hdy⟩ q
  obtain ⟨v, v2, v3, v4, rfl, i1, i2, i3, i4⟩ := isAll4 (show IsAll m K H vs [.hand, .d (dSpec ms ts), .d (.int (n : Int)), .d (dDyes dy)] from i0)
  simp only at hw hn1 hn hdy
  have hw5 := hw.n5
  have hw1 := hw.n1
  replace q : ∀ r v H', m.R H H' → (∃ tn : List (List Int), r = .d (.list (tn.map dInts)) ∧ RowsOk ms.length tn) → Is m K H' v r → Q v H' := q
  show tSeq (tPar 4 5 _) _ _ _ _
  have hBk : ∀ p, H p = none → p ∉ m.lo := fun p hp z => by
    obtain ⟨o, ho, _⟩ := k.lo p z
    rw [hp] at ho
    cases ho
  have hBH : ∀ {m' H'}, Stp m.lo m m' H H' → ∀ b ∈ m.lo, ∃ u, H' b = some u := fun s b hb => by
    obtain ⟨o, ho, _⟩ := k.lo b hb
    exact ⟨o, by rw [s.keep b hb hb]; exact ho⟩
  refine z_par1 (B := m.lo) (xs := []) k (en_lst (ds := []) ea_nil) (fun p H' s => es_draw (n := 4) (ev_var rfl (s.is i1)) ev_int (by decide) (by decide)) fun p r vk H2 s2 hp o1 hr jk => ?_
  obtain ⟨kd, hkd, rfl⟩ := hr
  have hB := hBk p hp
  refine z_forE (B := m.lo) s2.ok (ev_ixT (ds := [dNats ms, dPairs ts]) (ev_var rfl (s2.is i2)) ev_int rfl) (fun i m' σ' H' => (∃ a b c d e, σ' = [some v, some v2, some v3, some v4, some (.ref p), some vk, a, b, c, d, e]) ∧ ∃ tn : List (List Int), tn.length = i ∧ (∀ t ∈ tn, t ≠ []) ∧ Own m' K H' p (tn.map dInts))
    (fun H3 e3 => ⟨⟨_, _, _, _, _, rfl⟩, [], rfl, (fun t ht => by cases ht), o1.go e3⟩) (fun H3 i dd vd m' σ' H0 H' hd e3 s3 e4 pv id => ?_) fun m' σ' H' s3 pv => ?_
  · obtain ⟨⟨a, b, c, d, e, rfl⟩, tn, hlen, hne, ow⟩ := pv
    have ow' := ow.go e4
    rw [List.getElem?_map] at hd
    obtain ⟨mem, hmem, rfl⟩ := Option.map_eq_some_iff.mp hd
    have hi : i < ms.length := (List.getElem?_eq_some_iff.mp hmem).1
    have hmem3 := hw.mem _ (List.mem_of_getElem? hmem)
    have s4 : Stp m.lo m m' H H' := ((s2.then_r e3).trans s3).then_r e4
    have s40 : Stp m.lo (m.hide p) m' H3 H' := s3.then_r e4
    refine z_new (B := m.lo) (en_rg1 (ev_var rfl (s4.is i3)) (by omega)) s4.ok fun p8 H5 s5 hp8 oth5 o8 => ?_
    have s6 := s4.trans s5
    have ow5 := (oth5 p _ ow').2
    have nep := (oth5 p _ ow').1
    have s60 : Stp m.lo (m.hide p) (m'.hide p8) H3 H5 := s40.trans s5
    have en : ((List.range n).map fun (i : Nat) => PyData.int (i : Int)) = ((List.range n).map fun (i : Nat) => (i : Int)).map PyData.int := by rw [List.map_map]; rfl
    rw [en] at o8
    have vmem : ∀ {m'' : Md} {H'' : Hp} {σ : L2.St}, σ[7]? = some (some vd) → EvD m'' K (tVar 7) σ H'' (.d (.int (mem : Int))) := by
      intro m'' H'' σ h7
      refine ev_var h7 ?_
      rw [show vd = .int (mem : Int) from dp_int (id : Dp K (m'.vw H') vd (.int (mem : Int)))]
      exact .int _
    refine q_lcPop (B := m.lo) (S := fun j => 1 ≤ j) (hv := v) (left := (List.range n).map fun (i : Nat) => (i : Int)) s6.ok ((es_i2 (g := fun i j => if j < i then j else i) (S := fun j => 1 ≤ j) (ev_var rfl (s6.is i3)) ((es_opI (g := fun i j => i + j) (S := fun j => 0 ≤ j) (ev_ii (vmem rfl) ev_int) ((es_draw (n := 2) (ev_var rfl (s6.is i1)) ev_int (by decide) (by decide)).imp fun r ⟨d, _, h⟩ => ⟨(d : Int), h, by omega⟩)).imp fun r ⟨j, h, hj⟩ => ⟨(mem : Int) + 1 + j, h, by omega⟩)).imp fun r ⟨j, h, hj⟩ => ⟨(if j < (n : Int) then j else (n : Int)).toNat, ?_, ?_, ?_⟩) ?_ o8 (hBk p8 (s4.dom _ hp8)) (hBH s6) (fun _ => rfl) (fun _ => rfl) (fun _ => rfl) (s6.is i1) fun n1 D9 H6 ys hn9 s7 hD9 oth7 hyl o9 => ?_
    · rw [h]
      congr 2
      split <;> omega
    · rw [List.length_map, List.length_range]
      split <;> omega
    · split <;> omega
    · rw [List.length_map, List.length_range]
      omega
    have ow6 := oth7 p _ nep ow5
    have s8 := s6.trans s7
    let Pm : L2.St → Hp → Prop := fun σ' H7 => ∃ m'' a' b' c' p9, ∃ ys : List Int, σ' = [some v, some v2, some v3, some v4, some (.ref p), some vk, some (.int (i : Int)), some vd, a', b', c'] ∧ b' = some (.ref p9) ∧ Stp m.lo (m.hide p) m'' H3 H7 ∧ ys ≠ [] ∧ Own m'' K H7 p9 (ys.map .int) ∧ p9 ≠ p ∧ Own m'' K H7 p (tn.map dInts)
    have kdi : ∀ {m' : Md} {H' : Hp}, Is m' K H' vk (.d (.int (kd : Int))) := by
      intro m'' H''
      rw [show vk = .int (kd : Int) from dp_int (jk : Dp K ((m.hide p).vw H2) vk (.int (kd : Int)))]
      exact .int _
    refine q_whenC (b := dy.isSome && decide ((0 : Int) < (kd : Int))) Pm (fun σ' H7 pm => ?_) s7.ok (et_and ((et_test (ev_notN (ev_var rfl (s8.is i4)))).is ?_) fun _ => et_test (ev_ib (g := fun i j => decide (j < i)) (ev_var rfl kdi) ev_int)) (fun cont hb H7 e7 => ?_) fun hb H7 e7 => ⟨_, _, _, _, D9, ys, rfl, rfl, (s60.trans s7).then_r e7, ?_, o9.go e7, Ne.symm ow6.1, ow6.2.go e7⟩
    · obtain ⟨m'', a', b', c', p9, ys', rfl, rfl, s9, hne', o9', ne9, ow9⟩ := pm
      refine z_append (B := m.lo) (a := dInts ys') s9.ok (ev_var rfl rfl) ow9 (ev_tupL (EvD.to_rl (ev_var rfl rfl) o9')) (by rw [List.length_map, hlen]; omega) hB fun H8 s10 oth10 o10 => ⟨m'', s9.trans s10, ⟨_, _, _, _, _, rfl⟩, tn ++ [ys'], by rw [List.length_append, hlen]; rfl, fun t ht => ?_, ?_⟩
      · rcases List.mem_append.mp ht with h | h
        · exact hne t h
        · rw [List.mem_singleton.mp h]
          exact hne'
      · rw [List.map_append]
        exact o10
    · cases dy <;> rfl
    · rw [Bool.and_eq_true, decide_eq_true_eq] at hb
      obtain ⟨hb1, hb2⟩ := hb
      obtain ⟨ds, rfl⟩ := Option.isSome_iff_exists.mp hb1
      obtain ⟨hdl, hdr⟩ := hdy ds rfl
      have s11 := s8.then_r e7
      have hdi : ds[i]? = some (ds.getD i []) := by
        rw [List.getD_eq_getElem?_getD, List.getElem?_eq_getElem (by omega)]
        rfl
      have hmd : ms.getD i 0 = mem := by
        rw [List.getD_eq_getElem?_getD, hmem]
        rfl
      have hrl := hdr i hi
      rw [hmd] at hrl
      refine z_new (B := m.lo) (xs := (ds.getD i []).map .int) (en_lstT (ev_ixT (ds := ds.map dInts) (a := dInts (ds.getD i [])) (ev_var rfl (s11.is i4)) (ev_var rfl (.int (i : Int))) (atI_nat (by rw [List.getElem?_map, hdi]; rfl)))) s11.ok fun p8' H8 s12 hp8' oth12 o8' => ?_
      have s13 := s11.trans s12
      refine q_lcPop (B := m.lo) (S := fun j => j = mem + 1) (hv := v) (left := ds.getD i []) (sl := 8) (sh := 0) (jj := 10) (ii := 9) (vs := [10]) s13.ok ((ev_ii (g := fun i j => i + j) (j := 1) (vmem rfl) ev_int).s ⟨mem + 1, rfl, by omega, rfl⟩) (by omega) o8' (hBk p8' (s11.dom _ hp8')) (hBH s13) (fun _ => rfl) (fun _ => rfl) (fun _ => rfl) (s13.is i1) fun n2 D10 H9 ys2 hn10 s14 hD10 oth14 hyl2 o10 => ?_
      have owA := oth12 p _ (ow6.2.go e7)
      have owB := oth14 p _ owA.1 owA.2
      have s15 := s13.trans s14
      have s150 : Stp m.lo (m.hide p) _ H3 H9 := (((s60.trans s7).then_r e7).trans s12).trans s14
      have hB10 := hBk D10 (s13.dom _ hD10)
      have ys2ne : ys2 ≠ [] := by
        intro h
        rw [h] at hyl2
        simp at hyl2
        omega
      refine s_whenX s14.ok (tx_and (tx_of (et_test (ev_eqI (ev_var rfl kdi) ev_int))) (tx_test (es_bind (fun te => tOp rEq te (tC (.int 0))) (fun _ _ _ _ => rfl) (es_draw (n := 3) (ev_var rfl (s15.is i1)) ev_int (by decide) (by decide)) fun r vd H1 e hr jd => by
        obtain ⟨d, _, rfl⟩ := hr
        exact (ev_eqI (ev_cv jd) ev_int).s ⟨_, rfl⟩))) (fun H10 e10 => ?_) fun H10 e10 => cont _ _ ⟨_, _, _, _, D10, ys2, rfl, rfl, s150.then_r e10, ys2ne, o10.go e10, Ne.symm owB.1, owB.2.go e10⟩
      refine z_appendS (B := m.lo) (S := fun a => ∃ d : Nat, a = .int (d : Int)) e10.ok (ev_var rfl rfl) (o10.go e10) ((es_draw (n := n) (ev_var rfl ((s15.then_r e10).is i1)) (ev_var rfl ((s15.then_r e10).is i3)) hn1 (by omega)).imp fun r ⟨d, _, h⟩ => ⟨_, h, d, rfl⟩) (by rw [List.length_map]; omega) hB10 fun a H12 hS s16 oth16 o16 => ?_
      obtain ⟨d, rfl⟩ := hS
      refine cont _ _ ⟨_, _, _, _, D10, ys2 ++ [(d : Int)], rfl, rfl, (s150.then_r e10).trans s16, by simp, ?_, Ne.symm owB.1, oth16 p _ owB.1 (owB.2.go e10)⟩
      rw [List.map_append]
      exact o16
    · intro h
      rw [h] at hyl
      simp at hyl
      omega
  · obtain ⟨⟨a, b, c, d, e, rfl⟩, tn, hlen, hne, ow⟩ := pv
    have s4 : Stp m.lo m m' H H' := s2.trans s3
    refine s_ret (K := K) s4.ok (r := .v (.ref p)) (ev_var rfl rfl) fun vr H5 e5 i5 => ?_
    obtain rfl : vr = .ref p := i5
    have s5 := s4.then_r e5
    exact q _ _ H5 s5.r ⟨tn, rfl, by rw [hlen, List.length_map]; exact Nat.le_refl _, hne⟩ (s5.ownOut k hp (ow.go e5)).d_of_tl
end
end K20
end
section
set_option linter.all false
set_option maxRecDepth 100000
set_option maxHeartbeats 2000000
set_option autoImplicit false
namespace K20
open PySem PySem.Spec PyProof.Rows L2 LamX NdefX PySem.W
/-! ### _law_all_tags -/
def dTold (p : List Int × Option PyData) : PyData := .tuple [dInts p.1, .bool p.2.isSome]
def toldM (nx : Nat → List Int → PyData) (ms : List Nat) (k many : Nat) : List PyData := (List.range ms.length).map fun r => dTold (tagsR nx k (ms.getD r 0) r many [])
theorem bad_law (k mem : Nat) (hk : 1 ≤ k) (found : List Int) (tag : PyData) : badM k mem found tag = (!within tag 0 ((k : Int) - 1) || decide (tagI tag ∈ found.drop (found.length - mem))) := by
  have e : found.length - min found.length mem = found.length - mem := by omega
  unfold badM
  rw [e]
  cases tag with
  | int t =>
    have h1 : oddM k (.int t) = !within (.int t) 0 ((k : Int) - 1) := by
      show (!(decide (0 ≤ t) && decide (t < (k : Int)))) = !(decide (0 ≤ t) && decide (t ≤ (k : Int) - 1))
      rw [show decide (t < (k : Int)) = decide (t ≤ (k : Int) - 1) from decide_eq_decide.mpr (by omega)]
    rw [h1]
    rfl
  | _ => rfl
section
variable {P : Program} {w : World} {K : PySem.W.Frag} {mg : Str → Option Value} {base : Heap}
theorem rows_at {n : Nat} {tn : List (List Int)} (h : RowsOk n tn) {r : Nat} (hr : r < n) : r < tn.length ∧ tn.getD r [] ≠ [] := by
  have h1 : r < tn.length := Nat.lt_of_lt_of_le hr h.1
  refine ⟨h1, h.2 _ ?_⟩
  rw [List.getD_eq_getElem?_getD, List.getElem?_eq_getElem h1]
  exact List.getElem_mem h1
abbrev spAllTags (K : PySem.W.Frag) : Sp := SpF K (fun a : Wb × Nat × List (List Int) × Late × Nat => [.d (dSpec a.1.1 a.1.2), .d (.int (a.2.1 : Int)), .d (.list (a.2.2.1.map dInts)), .d (dLate a.2.2.2.1), .d (.int (a.2.2.2.2 : Int))])
  (fun a => WebOk a.1.1 a.1.2 ∧ 1 ≤ a.2.1 ∧ RowsOk a.1.1.length a.2.2.1 ∧ a.2.2.2.2 ≤ 60) (fun a => .tl (toldM (nextM a.2.2.1 a.2.2.2.1) a.1.1 a.2.1 a.2.2.2.2))
theorem sc_law_all_tags : FnScope ["_law_spec_here", "_law_k", "_law_turns_here", "_law_late_here", "_law_many", "_law_found", "_law_room", "_law_memory", "_law_tags", "_law_bad", "_law_turn", "_law_tag", "_law_last"] ["_law_spec_here", "_law_k", "_law_turns_here", "_law_late_here", "_law_many"] (defScope s_law_all_tags) := ⟨rfl, rfl, rfl, by decide +kernel, rfl, by decide +kernel, by decide +kernel⟩
theorem ok_law_all_tags (T : Top K mg) : Cal P w K mg base 2 "_law_all_tags" ["_law_spec_here", "_law_k", "_law_turns_here", "_law_late_here", "_law_many"] (spAllTags K) := by
  have G := T.G
  refine T.d_law_all_tags.cal sc_law_all_tags (fun _ _ _ _ _ _ us hl => match us, hl with | [_, _, _, _, _], _ => rfl) (fun _ => rfl) (fun f cdv A outer s H0 E hr => ?_)
  refine ⟨_, (pss_cons (ps_set (i := 5) sc_law_all_tags.nd rfl (Or.inl rfl) (pe_lst pa_nil))
    (pss_cons (ps_for PassesOwn.never rfl (pi_enumT (by rfl) G.enumerate_ (pa_cons (pe_ix ix_tup (pv 0) pe_int (fun _ _ => rfl)) pa_nil)) (pg_tup rfl (pgs_cons (pg_name (i := 6) sc_law_all_tags.nd rfl (Or.inl rfl)) (pgs_cons (pg_name (i := 7) sc_law_all_tags.nd rfl (Or.inl rfl)) pgs_nil)))
    (pss_cons (ps_asg (pe_tup (pa_cons (pe_tup pa_nil) (pa_cons pe_bl pa_nil))) (pg_tup rfl (pgs_cons (pg_name (i := 8) sc_law_all_tags.nd rfl (Or.inl rfl)) (pgs_cons (pg_name (i := 9) sc_law_all_tags.nd rfl (Or.inl rfl)) pgs_nil))))
    (pss_cons (ps_for PassesOwn.never rfl (pi_range1 (by rfl) G.range_ (pa_cons (pv 4) pa_nil)) (pg_name (i := 10) sc_law_all_tags.nd rfl (Or.inl rfl))
    (pss_cons (ps_set (i := 11) sc_law_all_tags.nd rfl (Or.inl rfl) (pe_cal (ok_law_next T) (hr.mono (by decide)) (by rfl) (pa_cons (pv 2) (pa_cons (pv 3) (pa_cons (pv 6) (pa_cons (pv 8) pa_nil))))))
    (pss_cons (ps_set (i := 12) sc_law_all_tags.nd rfl (Or.inl rfl) (pe_slice sl_tupA (pv 8) (po_some (pe_callB (call_max2 rfl) (by rfl) G.max_ (by decide +kernel) (pa_cons pe_int (pa_cons (pe_op op_sub (pe_callB call_len_seq (by rfl) G.len_ (by decide +kernel) (pa_cons (pv 8) pa_nil)) (pv 7)) pa_nil)))) po_none))
    (pss_cons (ps_set (i := 9) sc_law_all_tags.nd rfl (Or.inl rfl) (pe_or (pe_not (pe_cal (ok_law_is_whole T) (hr.mono (by decide)) (by rfl) (pa_cons (pv 11) (pa_cons pe_int (pa_cons (pe_op op_sub (pv 1) pe_int) pa_nil))))) (pe_one (pe_cmpR op_in_seq (pv 11) (pv 12) (by rfl)))))
    (pss_cons (ps_if (pt_val (pv 9)) (pss_one ps_break) pss_nil)
    (pss_one (ps_set (i := 8) sc_law_all_tags.nd rfl (Or.inl rfl) (pe_op op_catA (pv 8) (pe_tup (pa_cons (pv 11) pa_nil))))))))))
    (pss_one (ps_expr (pe_bm PySem.F.plainAttrs_list PySem.F.slot_list_append PySem.F.type_list_append mt_append (pv 5) (pa_cons (pe_tup (pa_cons (pv 8) (pa_cons (pv 9) pa_nil))) pa_nil)))))))
    (pss_one (ps_ret (pv 5))))), ?_⟩
  intro m ⟨⟨ms, ts⟩, k', tn, late, many⟩ H vs Q k i0 ⟨hw, hk1, hrows, hm⟩ q
  obtain ⟨v, v2, v3, v4, v5, rfl, i1, i2, i3, i4, i5⟩ := isAll5 (show IsAll m K H vs [.d (dSpec ms ts), .d (.int (k' : Int)), .d (.list (tn.map dInts)), .d (dLate late), .d (.int (many : Int))] from i0)
  simp only at hw hk1 hrows hm
  let nx := nextM tn late
  replace q : ∀ v H', m.R H H' → Is m K H' v (.tl (toldM nx ms k' many)) → Q v H' := fun v H' e i => q _ v H' e rfl i
  have hn5 := hw.n5
  have hBk : ∀ p, H p = none → p ∉ m.lo := fun p hp z => by
    obtain ⟨o, ho, _⟩ := k.lo p z
    rw [hp] at ho
    cases ho
  refine z_list (K := K) (xs := []) ea_nil k (by decide) fun H1 p ws e1 hp1 o1 => ?_
  have hp : H p = none := e1.dom p hp1
  have hB := hBk p hp
  have s1 : Stp m.lo m (m.hide p) H (upd H1 p (.lst ws)) := (Stp.of_r e1).trans (Stp.hide e1.ok hp1)
  let tr : Nat → List Int × Option PyData := fun r => tagsR nx k' (ms.getD r 0) r many []
  refine z_forE (B := m.lo) s1.ok (ev_ixT (ds := [dNats ms, dPairs ts]) (ev_var rfl (s1.is i1)) ev_int rfl) (fun i m' σ' H' => m' = m.hide p ∧ (∃ a b c d e g h, σ' = [some v, some v2, some v3, some v4, some v5, some (.ref p), a, b, c, d, e, g, h]) ∧ Own m' K H' p ((List.range i).map fun r => dTold (tr r)))
    (fun H3 e3 => ⟨rfl, ⟨_, _, _, _, _, _, _, rfl⟩, o1.go e3⟩) (fun H3 r dd vd m' σ' H0 H' hd e3 s3 e4 pv id => ?_) fun m' σ' H' s3 pv => ?_
  · obtain ⟨rfl, ⟨a, b, c, d, e, g, h, rfl⟩, ow⟩ := pv
    rw [List.getElem?_map] at hd
    obtain ⟨mem, hmem, rfl⟩ := Option.map_eq_some_iff.mp hd
    have hr' : r < ms.length := (List.getElem?_eq_some_iff.mp hmem).1
    have hmd : ms.getD r 0 = mem := by
      rw [List.getD_eq_getElem?_getD, hmem]
      rfl
    have s4 : Stp m.lo m (m.hide p) H H' := ((s1.then_r e3).trans s3).then_r e4
    have s30 : Stp m.lo (m.hide p) (m.hide p) H3 H' := s3.then_r e4
    have ow4 := ow.go e4
    obtain ⟨hrt, hrne⟩ := rows_at hrows hr'
    refine q_asgP (K := K) (a := dInts []) (b := .bool false) s4.ok (ev_tup (ds := [.tuple [], .bool false]) (ea_cons (ev_tup (ds := []) ea_nil) (ea_cons ev_bl ea_nil))) fun vt vb H5 e5 it ib => ?_
    have vbe : vb = .bl false := dp_bl (ib : Dp K ((m.hide p).vw H5) vb (.bool false))
    subst vbe
    have s5 := s4.then_r e5
    have vde : vd = .int (mem : Int) := dp_int (id : Dp K ((m.hide p).vw H') vd (.int (mem : Int)))
    subst vde
    let Pm : L2.St → Hp → Prop := fun σ' H6 => ∃ vt' b' x y z, σ' = [some v, some v2, some v3, some v4, some v5, some (.ref p), some (.int (r : Int)), some (.int (mem : Int)), some vt', some (.bl b'), x, y, z] ∧ (m.hide p).R H5 H6 ∧ Is (m.hide p) K H6 vt' (.d (dInts (tr r).1)) ∧ b' = (tr r).2.isSome
    refine q_forR1C (ps := []) Pm (fun σ' H6 pm => ?_) e5.ok (ea_cons (ev_var rfl (s5.is i5)) ea_nil) (by omega) (fun j σ' H6 => ∃ (found : List Int) (vf : V) (x y z : Option V), σ' = [some v, some v2, some v3, some v4, some v5, some (.ref p), some (.int (r : Int)), some (.int (mem : Int)), some vf, some (.bl false), x, y, z] ∧ found.length = j ∧ Is (m.hide p) K H6 vf (.d (dInts found)) ∧ tr r = tagsR nx k' mem r (many - j) found)
        (fun H6 e6 => ⟨[], vt, _, _, _, rfl, rfl, it.mono e6, by rw [Nat.sub_zero, ← hmd]⟩) (fun cont H6 j σ' H7 hj e6 w6 pv => ?_) fun σ' H7 w6 pv => ?_
    · obtain ⟨vt', b', x, y, z, rfl, e6, jt, hb'⟩ := pm
      refine z_append (B := m.lo) (a := dTold (tr r)) e6.ok (ev_var rfl rfl) ((ow4.go e5).go e6) (ev_tup (ds := [dInts (tr r).1, .bool (tr r).2.isSome]) (ea_cons (ev_var rfl jt) (ea_cons (ev_var rfl (by rw [hb']; exact .bl _)) ea_nil))) (by rw [List.length_map, List.length_range]; omega) hB fun H7 s7 oth7 o7 => ⟨m.hide p, ((s30.then_r e5).then_r e6).trans s7, rfl, ⟨_, _, _, _, _, _, _, rfl⟩, ?_⟩
      rw [List.range_succ, List.map_append]
      exact o7
    · obtain ⟨found, vf, x, y, z, rfl, hfl, hf1, hf3⟩ := pv
      have e57 : (m.hide p).R H5 H7 := R.trans e6 w6
      have s7 := s5.then_r e57
      have hstep : tagsR nx k' mem r (many - j) found = if badM k' mem found (nx r found) = true then (found, some (nx r found)) else tagsR nx k' mem r (many - (j + 1)) (found ++ [tagI (nx r found)]) := by
        have : many - j = (many - (j + 1)) + 1 := by omega
        rw [this]
        rfl
      refine q_asg w6.ok (ev_call (x := ((true, tn, late), r, found)) (ea_cons (ev_var rfl (s7.is i3)) (ea_cons (ev_var rfl (s7.is i4)) (ea_cons (ev_var rfl (.int (r : Int))) (ea_cons (ev_var rfl hf1) ea_nil)))) ⟨hrt, hrne⟩) fun vg H8 e8 ig => ?_
      replace ig : Is (m.hide p) K H8 vg (.d (nx r found)) := ig
      refine q_asg e8.ok ((ev_slT (ds := found.map .int) (lo := some ((found.length - mem : Nat) : Int)) (ev_var rfl (hf1.mono e8)) (eo_some ((ev_i2 (g := fun i j => if j > i then j else i) ev_int (ev_ii (ev_lenT (ds := found.map .int) (ev_var rfl (hf1.mono e8))) (ev_var rfl (.int (mem : Int))))).is ?_)) eo_none).is (by rw [cutD_ints])) fun vl H9 e9 il => ?_
      · rw [List.length_map]
        congr 2
        split <;> omega
      have e79 := R.trans e8 e9
      have s9 := s7.then_r e79
      refine q_asg (r := .d (.bool (badM k' mem found (nx r found)))) e9.ok ((ev_orV (a := !within (nx r found) 0 ((k' : Int) - 1)) (b := decide (tagI (nx r found) ∈ found.drop (found.length - mem))) (ev_notV (ev_call (x := (nx r found, (0 : Int), (k' : Int) - 1)) (ea_cons (ev_var rfl (ig.mono e9)) (ea_cons ev_int (ea_cons (ev_ii (ev_var rfl (s9.is i2)) ev_int) ea_nil))) True.intro)) fun z => ?_).is (by rw [bad_law k' mem hk1])) fun vbb H10 e10 ibb => ?_
      · have hint : ∃ t, nx r found = .int t := by
          revert z
          cases nx r found <;> intro z <;> first | exact ⟨_, rfl⟩ | cases z
        obtain ⟨t, ht⟩ := hint
        have ig9 := ig.mono e9
        rw [ht] at ig9 ⊢
        exact ev_inT (ev_var rfl ig9) (ev_var rfl il)
      have vbbe : vbb = .bl (badM k' mem found (nx r found)) := dp_bl (ibb : Dp K ((m.hide p).vw H10) vbb (.bool _))
      subst vbbe
      have e710 := R.trans e79 e10
      refine q_when (b := badM k' mem found (nx r found)) e10.ok (et_B (K := K) (ev_var rfl (.bl _))) (fun hb H11 e11 => ?_) fun hb H11 e11 => ?_
      · refine cont _ _ ⟨vf, true, _, _, _, by rw [hb]; rfl, R.trans e57 (R.trans e710 e11), ?_, ?_⟩
        · rw [hf3, hstep, if_pos hb]
          exact hf1.mono (R.trans e710 e11)
        · rw [hf3, hstep, if_pos hb]
          rfl
      · have hint : ∃ t, nx r found = .int t := by
          revert hb
          unfold badM
          cases nx r found <;> intro z <;> first | exact ⟨_, rfl⟩ | cases z
        obtain ⟨t, ht⟩ := hint
        have ig11 := (ig.mono e9).mono (R.trans e10 e11)
        rw [ht] at ig11
        have e711 := R.trans e710 e11
        refine s_asg e11.ok (ev_catT (ds := found.map .int) (es := [.int t]) (ev_var rfl (hf1.mono e711)) (ev_tup (ds := [.int t]) (ea_cons (ev_var rfl ig11) ea_nil)) (by rw [List.length_map]; simp only [List.length_singleton]; omega)) fun vr H12 e12 i12 => ⟨W.trans w6 (R.trans e711 e12), found ++ [t], vr, _, _, _, by rw [hb]; rfl, by rw [List.length_append, hfl]; rfl, ?_, ?_⟩
        · rw [show dInts (found ++ [t]) = .tuple (found.map PyData.int ++ [.int t]) by unfold dInts; rw [List.map_append]; rfl]
          exact i12
        · rw [hf3, hstep, if_neg (by rw [hb]; decide), ht]
          rfl
    · obtain ⟨found, vf, x, y, z, rfl, hfl, hf1, hf3⟩ := pv
      rw [Nat.sub_self] at hf3
      exact ⟨vf, false, _, _, _, rfl, w6, by rw [hf3]; exact hf1, by rw [hf3]; rfl⟩
  · obtain ⟨rfl, ⟨a, b, c, d, e, g, h, rfl⟩, ow⟩ := pv
    have s4 : Stp m.lo m (m.hide p) H H' := s1.trans s3
    refine s_ret (K := K) s4.ok (r := .v (.ref p)) (ev_var rfl rfl) fun vr H5 e5 i5 => ?_
    obtain rfl : vr = .ref p := i5
    have s5 := s4.then_r e5
    refine q _ H5 s5.r (s5.ownOut k hp ?_)
    rw [List.length_map] at ow
    exact ow.go e5
end
end K20
end
section
set_option linter.all false
set_option maxRecDepth 100000
set_option maxHeartbeats 2000000
set_option autoImplicit false
namespace K20
open PySem PySem.Spec PyProof.Rows L2 LamX NdefX PySem.W
/-! ### _law_falls -/
abbrev Tr := Nat → List Int × Option PyData
def fallsM (ms : List Nat) (ts : List (Nat × Nat)) (tr : Tr) : Bool := (List.range ms.length).any (fun r => (tr r).2.isSome) || ts.any fun p => (tr p.1).1.any fun t => decide (t ∈ (tr p.2).1)
def sndD : PyData → PyData
  | .tuple [_, b] => b
  | _ => .none
def pairB (tr : Tr) : PyData → PyData
  | .tuple [.int a, .int b] => .bool ((tr a.toNat).1.any fun t => decide (t ∈ (tr b.toNat).1))
  | _ => .none
def inD (l : List Int) : PyData → PyData
  | .int t => .bool (decide (t ∈ l))
  | _ => .none
section
variable {P : Program} {w : World} {K : PySem.W.Frag} {mg : Str → Option Value} {base : Heap}
abbrev spFalls (K : PySem.W.Frag) : Sp := SpF K (fun a : Wb × Tr => [.d (dSpec a.1.1 a.1.2), .d (.list ((List.range a.1.1.length).map fun r => dTold (a.2 r)))]) (fun a => WebOk a.1.1 a.1.2 ∧ ∀ r, (a.2 r).1.length ≤ 60) (fun a => .d (.bool (fallsM a.1.1 a.1.2 a.2)))
theorem sc_law_falls : FnScope ["_law_spec_here", "_law_told", "_law_tags", "_law_bad", "_law_one", "_law_other", "_law_tag"] ["_law_spec_here", "_law_told"] (defScope s_law_falls) := ⟨rfl, rfl, rfl, by decide +kernel, rfl, by decide +kernel, by decide +kernel⟩
theorem ok_law_falls (T : Top K mg) : Cal P w K mg base 1 "_law_falls" ["_law_spec_here", "_law_told"] (spFalls K) := by
  have G := T.G
  refine T.d_law_falls.cal sc_law_falls (fun _ _ _ _ _ _ us hl => match us, hl with | [_, _], _ => rfl) (fun _ => rfl) (fun f cdv A outer s H0 E hr => ?_)
  refine ⟨_, (pss_cons (ps_if (pt_val (pe_callB (cr_any rfl) (by rfl) G.any_ (by decide +kernel) (pa_cons (pe_lc (own := [("_law_tags", 2), ("_law_bad", 3)]) (g := (gTup K 2 (gCons (gName 2) (gCons (gName 3) gNil)))) (tt := tYes) (te := (tVar 3)) rfl sc_law_falls.nd (pi_list (pv 1)) (blkOk_by (own := [("_law_tags", 2), ("_law_bad", 3)]) (by kernel_rfl)) (fun _ _ _ _ _ => (pg_tup rfl (pgs_cons (pg_name (i := 2) sc_law_falls.nd rfl (Or.inl rfl)) (pgs_cons (pg_name (i := 3) sc_law_falls.nd rfl (Or.inl rfl)) pgs_nil)))) (fun _ _ _ _ _ => pts_nil) (fun _ _ _ _ _ => (pv 3))) pa_nil))) (pss_one (ps_ret pe_bl)) pss_nil)
    (pss_one (ps_ret (pe_callB (cr_any rfl) (by rfl) G.any_ (by decide +kernel) (pa_cons (pe_lc (own := [("_law_one", 4), ("_law_other", 5)]) (g := (gTup K 2 (gCons (gName 4) (gCons (gName 5) gNil)))) (tt := tYes) (te := (tCB (rAny K) (tCons (tLc (iTup K (tOp (rIxT K) (tOp (rIxL K) (tVar 1) (tVar 4)) (tC (.int 0)))) (gName 6) tYes (tOp (rIn K false) (tVar 6) (tOp (rIxT K) (tOp (rIxL K) (tVar 1) (tVar 5)) (tC (.int 0)))) [6]) tNil))) rfl sc_law_falls.nd (pi_tup (pe_ix ix_tup (pv 0) pe_int (fun _ _ => rfl))) (blkOk_by (own := [("_law_one", 4), ("_law_other", 5)]) (by kernel_rfl)) (fun _ _ _ _ _ => (pg_tup rfl (pgs_cons (pg_name (i := 4) sc_law_falls.nd rfl (Or.inl rfl)) (pgs_cons (pg_name (i := 5) sc_law_falls.nd rfl (Or.inr rfl)) pgs_nil)))) (fun _ _ _ _ _ => pts_nil) (fun _ _ _ _ _ => (pe_callB (cr_any rfl) (by rfl) G.any_ (by decide +kernel) (pa_cons (pe_lc (own := [("_law_tag", 6)]) (g := (gName 6)) (tt := tYes) (te := (tOp (rIn K false) (tVar 6) (tOp (rIxT K) (tOp (rIxL K) (tVar 1) (tVar 5)) (tC (.int 0))))) rfl sc_law_falls.nd (pi_tup (pe_ix ix_tup (pe_ix ix_list (pv 1) (pv 4) (fun _ _ => rfl)) pe_int (fun _ _ => rfl))) (blkOk_by (own := [("_law_tag", 6)]) (by kernel_rfl)) (fun _ _ _ _ _ => (pg_name (i := 6) sc_law_falls.nd rfl (Or.inl rfl))) (fun _ _ _ _ _ => pts_nil) (fun _ _ _ _ _ => (pe_cmpR op_in_seq (pv 6) (pe_ix ix_tup (pe_ix ix_list (pv 1) (pv 5) (fun _ _ => rfl)) pe_int (fun _ _ => rfl)) (by rfl)))) pa_nil)))) pa_nil))))), ?_⟩
  intro m ⟨⟨ms, ts⟩, tr⟩ H vs Q k i0 ⟨hw, htr⟩ q
  obtain ⟨v, v2, rfl, i1, i2⟩ := isAll2 (show IsAll m K H vs [.d (dSpec ms ts), .d (.list ((List.range ms.length).map fun r => dTold (tr r)))] from i0)
  simp only at hw htr
  replace q : ∀ v H', m.R H H' → Is m K H' v (.d (.bool (fallsM ms ts tr))) → Q v H' := fun v H' e i => q _ v H' e rfl i
  have hn5 := hw.n5
  have hfew := hw.few
  have told_at : ∀ r, r < ms.length → ((List.range ms.length).map fun r => dTold (tr r))[r]? = some (dTold (tr r)) := fun r hr => by
    rw [List.getElem?_map, List.getElem?_range hr]
    rfl
  refine q_when (b := (List.range ms.length).any (fun r => (tr r).2.isSome)) k (et_B ((ev_anyL (bs := (List.range ms.length).map fun r => (tr r).2.isSome) (ev_tlr ((ev_lcLG (fun _ => true) sndD (ev_var rfl i2) (by rw [List.length_map, List.length_range]; omega) fun m' H' d u hd I hi Q2 q2 => ?_).is ?_))).is ?_)) (fun hb H1 e1 => s_ret (K := K) e1.ok ev_bl fun vr H2 e2 i2 => q vr H2 (R.trans e1 e2) ?_) fun hb H1 e1 => ?_
  · obtain ⟨r, hr, rfl⟩ := List.mem_map.mp hd
    exact gp_in hi fun x y ix iy => q2 _ rfl (et_yes rfl) fun _ => ev_var rfl iy
  · rw [filter_true, List.map_map, List.map_map]
    rfl
  · rw [List.any_map]
    rfl
  · unfold fallsM
    rw [hb]
    exact i2
  · refine s_ret (K := K) e1.ok (r := .d (.bool (ts.any fun p => (tr p.1).1.any fun t => decide (t ∈ (tr p.2).1)))) ((ev_anyL (bs := ts.map fun p => (tr p.1).1.any fun t => decide (t ∈ (tr p.2).1)) (ev_tlr ((ev_lcTG (fun _ => true) (pairB tr) (ev_ixT (ds := [dNats ms, dPairs ts]) (ev_var rfl (i1.mono e1)) ev_int rfl) (by rw [List.length_map]; omega) fun m' H' d u hd I hi Q2 q2 => ?_).is ?_))).is ?_) fun vr H2 e2 i2 => q vr H2 (R.trans e1 e2) ?_
    · obtain ⟨p, hp, rfl⟩ := List.mem_map.mp hd
      obtain ⟨t1, t2⟩ := hw.tie p hp
      have htl : ∀ {σ : L2.St} {m'' : Md} {H'' : Hp} {s : Nat} {u : V} {r : Nat}, σ[1]? = some (some v2) → σ[s]? = some (some u) → Is m'' K H'' v2 (.d (.list ((List.range ms.length).map fun r => dTold (tr r)))) → Is m'' K H'' u (.d (.int (r : Int))) → r < ms.length → EvD m'' K (tOp (rIxT K) (tOp (rIxL K) (tVar 1) (tVar s)) (tC (.int 0))) σ H'' (.d (dInts (tr r).1)) := fun h1 hs j1 js hr => ev_ixT (ds := [dInts (tr _).1, .bool (tr _).2.isSome]) (ev_ixL (ev_dlr (ev_var h1 j1)) (ev_var hs js) (atI_nat (told_at _ hr))) ev_int rfl
      refine gp_in hi fun x y ix iy => q2 _ rfl (et_yes rfl) fun _ => ?_
      have j2 := I.is _ _ (i2.mono e1)
      refine (ev_anyL (bs := (tr p.1).1.map fun t => decide (t ∈ (tr p.2).1)) (ev_tlr ((ev_lcT (fun _ => true) (inD (tr p.2).1) (htl rfl rfl j2 ix (by omega)) (by rw [List.length_map]; have := htr p.1; omega) (fun _ => rfl) (fun m2 H2 d2 u2 hd2 I2 hi2 => et_yes rfl) fun m2 H2 d2 u2 hd2 I2 hi2 _ => ?_).is ?_))).is ?_
      · obtain ⟨t, ht, rfl⟩ := List.mem_map.mp hd2
        exact ev_inT (ev_var rfl hi2) (htl rfl rfl (I2.is _ _ j2) (I2.is _ _ iy) t2)
      · rw [filter_true, List.map_map, List.map_map]
        rfl
      · rw [List.any_map]
        show Dx.d (.bool _) = Dx.d (.bool ((tr (p.1 : Int).toNat).1.any fun t => decide (t ∈ (tr (p.2 : Int).toNat).1)))
        rw [Int.toNat_natCast, Int.toNat_natCast]
        rfl
    · rw [filter_true, List.map_map, List.map_map]
      rfl
    · rw [List.any_map]
      rfl
    · unfold fallsM
      rw [hb, Bool.false_or]
      exact i2
end
end K20
end
section
set_option linter.all false
set_option maxRecDepth 100000
set_option maxHeartbeats 2000000
set_option autoImplicit false
namespace K20
open PySem PySem.Spec PyProof.Rows L2 LamX NdefX PySem.W
/-! ### the law's own leading, in plain Lean -/
def ownT (d : Deed) (r : Nat) : List Int := match d with
  | .give r' t => if r' = r then [t] else []
  | .back _ => []
theorem tagsOf_snoc (l : List Deed) (d : Deed) (r : Nat) : tagsOf (l ++ [d]) r = tagsOf l r ++ ownT d r := by
  unfold tagsOf
  rw [List.filterMap_append]
  congr 1
  cases d with
  | give r' t =>
    unfold ownT
    by_cases h : r' = r
    · simp [h]
    · simp [h]
  | back r' => rfl
structure LInv (ms : List Nat) (s : List Deed × Stand) : Prop where
  len : s.2.length = ms.length
  tag : ∀ r, r < ms.length → (at_ s.2 r).2 = (tagsOf s.1 r).reverse.take (max 1 (ms.getD r 0))
  held : ∀ r, r < ms.length → (at_ s.2 r).1 = true → tagsOf s.1 r ≠ []
theorem at_set {st : Stand} {r r' : Nat} {p : Bool × List Int} (h : r < st.length) : at_ (st.set r p) r' = if r = r' then p else at_ st r' := by
  unfold at_
  rw [List.getD_eq_getElem?_getD, List.getD_eq_getElem?_getD, List.getElem?_set]
  by_cases e : r = r'
  · rw [if_pos e, if_pos e, if_pos (by omega)]
    rfl
  · rw [if_neg e, if_neg e]
theorem linv_begun (ms : List Nat) : LInv ms ([], begunM ms) := by
  have hat : ∀ r, r < ms.length → at_ (begunM ms) r = (false, []) := fun r hr => by
    unfold at_ begunM
    rw [List.getD_eq_getElem?_getD, List.getElem?_replicate, if_pos hr]
    rfl
  refine ⟨List.length_replicate, fun r hr => ?_, fun r hr h => ?_⟩
  · rw [hat r hr]
    show [] = List.take _ ([] : List Int).reverse
    simp
  · rw [hat r hr] at h
    cases h
theorem linv_dn {ms : List Nat} {s : List Deed × Stand} (h : LInv ms s) (d : Deed) (hd : roomD d < ms.length) : LInv ms (dn ms s d) := by
  have hlt : roomD d < s.2.length := by rw [h.len]; exact hd
  refine ⟨by show (afterM ms s.2 d).length = _; rw [after_len, h.len], fun r hr => ?_, fun r hr hh => ?_⟩
  · show (at_ (s.2.set (roomD d) (hereM ms s.2 d)) r).2 = (tagsOf (s.1 ++ [d]) r).reverse.take _
    rw [at_set hlt, tagsOf_snoc]
    cases d with
    | give r' t =>
      show (if r' = r then (true, (t :: (at_ s.2 r').2).take (max 1 (ms.getD r' 0))) else at_ s.2 r).2 = ((tagsOf s.1 r ++ if r' = r then [t] else [])).reverse.take _
      by_cases e : r' = r
      · subst e
        rw [if_pos rfl, if_pos rfl, List.reverse_append]
        show (t :: (at_ s.2 r').2).take _ = (t :: (tagsOf s.1 r').reverse).take _
        rw [h.tag r' hr]
        have hm : max 1 (ms.getD r' 0) = (max 1 (ms.getD r' 0) - 1) + 1 := by omega
        rw [hm, List.take_succ_cons, List.take_succ_cons, List.take_take]
        congr 2
        omega
      · rw [if_neg e, if_neg e, List.append_nil]
        exact h.tag r hr
    | back r' =>
      show (if r' = r then (false, (at_ s.2 r').2) else at_ s.2 r).2 = (tagsOf s.1 r ++ []).reverse.take _
      rw [List.append_nil]
      by_cases e : r' = r
      · subst e
        rw [if_pos rfl]
        exact h.tag r' hr
      · rw [if_neg e]
        exact h.tag r hr
  · show tagsOf (s.1 ++ [d]) r ≠ []
    rw [tagsOf_snoc]
    have hh : (at_ (s.2.set (roomD d) (hereM ms s.2 d)) r).1 = true := hh
    rw [at_set hlt] at hh
    intro z
    have z1 := (List.append_eq_nil_iff.mp z).1
    have z2 := (List.append_eq_nil_iff.mp z).2
    cases d with
    | give r' t =>
      by_cases e : r' = r
      · have z2 : (if r' = r then [t] else []) = [] := z2
        rw [if_pos e] at z2
        cases z2
      · have hh : (if r' = r then _ else at_ s.2 r).1 = true := hh
        rw [if_neg e] at hh
        exact h.held r hr hh z1
    | back r' =>
      have hh : (if r' = r then (false, (at_ s.2 r').2) else at_ s.2 r).1 = true := hh
      by_cases e : r' = r
      · rw [if_pos e] at hh
        cases hh
      · rw [if_neg e] at hh
        exact h.held r hr hh z1
/-- the last tag given in a room -/
def lastT (l : List Int) : Int := l.getLastD 0
def shownM (n : Nat) (ts : List (Nat × Nat)) (s : List Deed × Stand) (r : Nat) : List Int := ((List.range n).filter fun o => tied ts r o && (at_ s.2 o).1).map fun o => lastT (tagsOf s.1 o)
theorem head_last (l : List Int) (h : l ≠ []) (j : Nat) (hj : 1 ≤ j) : (l.reverse.take j).head? = some (lastT l) := by
  have e : j = (j - 1) + 1 := by omega
  obtain ⟨xs, x, rfl⟩ : ∃ xs x, l = xs ++ [x] := ⟨l.dropLast, l.getLast h, (List.dropLast_concat_getLast h).symm⟩
  rw [e, List.reverse_append]
  show ((x :: xs.reverse).take _).head? = _
  rw [List.take_succ_cons]
  unfold lastT
  simp
theorem take_rev (l : List Int) (j : Nat) : l.reverse.take j = (l.drop (l.length - j)).reverse := by
  rw [List.take_reverse]
theorem bar_law {ms : List Nat} {ts : List (Nat × Nat)} {s : List Deed × Stand} (h : LInv ms s) {r : Nat} (hr : r < ms.length) (t : Int) :
    (decide (t ∈ shownM ms.length ts s r) || decide (t ∈ (tagsOf s.1 r).drop ((tagsOf s.1 r).length - ms.getD r 0))) = barM ms ts s.2 r t := by
  unfold barM
  rw [Bool.or_comm]
  congr 1
  · rw [h.tag r hr, List.take_take, show min (ms.getD r 0) (max 1 (ms.getD r 0)) = ms.getD r 0 by omega, take_rev]
    simp
  · rw [Bool.eq_iff_iff]
    unfold shownM
    simp only [decide_eq_true_eq, List.mem_map, List.mem_filter, List.mem_range, List.any_eq_true, Bool.and_eq_true, beq_iff_eq]
    constructor
    · rintro ⟨o, ⟨ho, h1, h2⟩, rfl⟩
      refine ⟨o, ho, ⟨h1, h2⟩, ?_⟩
      rw [h.tag o ho]
      exact head_last _ (h.held o ho h2) _ (by omega)
    · rintro ⟨o, ho, ⟨h1, h2⟩, h3⟩
      refine ⟨o, ⟨ho, h1, h2⟩, ?_⟩
      rw [h.tag o ho, head_last _ (h.held o ho h2) _ (by omega)] at h3
      exact Option.some.inj h3
theorem word_stop {ms : List Nat} {ts : List (Nat × Nat)} {k r : Nat} (hk : 1 ≤ k) {st : Stand} {tag : PyData} (h : (isNon tag || !within tag 0 ((k : Int) - 1)) = true) : wordM ms ts k st r tag = if isNon tag = true then ("stuck" : Str) else ("odd" : Str) := by
  cases tag with
  | int t =>
    have h1 : (!within (.int t) 0 ((k : Int) - 1)) = true := h
    have h2 : oddM k (.int t) = true := by
      show (!(decide (0 ≤ t) && decide (t < (k : Int)))) = true
      rw [show decide (t < (k : Int)) = decide (t ≤ (k : Int) - 1) from decide_eq_decide.mpr (by omega)]
      exact h1
    show (if oddM k (.int t) = true then ("odd" : Str) else _) = _
    rw [if_pos h2]
    rfl
  | _ => rfl
theorem word_go {ms : List Nat} {ts : List (Nat × Nat)} {k r : Nat} {st : Stand} {tag : PyData} (h : (isNon tag || !within tag 0 ((k : Int) - 1)) = false) : ∃ t, tag = .int t ∧ wordM ms ts k st r tag = if barM ms ts st r t = true then ("barred" : Str) else ("kept" : Str) := by
  cases tag with
  | int t =>
    refine ⟨t, rfl, ?_⟩
    have h1 : (!within (.int t) 0 ((k : Int) - 1)) = false := h
    have h2 : oddM k (.int t) = false := by
      show (!(decide (0 ≤ t) && decide (t < (k : Int)))) = false
      rw [show decide (t < (k : Int)) = decide (t ≤ (k : Int) - 1) from decide_eq_decide.mpr (by omega)]
      exact h1
    show (if oddM k (.int t) = true then ("odd" : Str) else _) = _
    rw [if_neg (by rw [h2]; decide)]
  | none => cases h
  | _ => cases h
theorem ledM_cons (g : Ldg) (a : Ask) (as : List Ask) (s : List Deed × Stand) : ledM g (a :: as) s = if (stepM g s a).1 = "kept" then ledM g as (stepM g s a).2 else ((stepM g s a).2.1, (stepM g s a).1) := rfl
theorem step_back (g : Ldg) (s : List Deed × Stand) (r : Nat) : stepM g s (false, r) = (("kept" : Str), dn g.ms s (.back r)) := rfl
theorem step_stop {g : Ldg} {s : List Deed × Stand} {r : Nat} {wd : Str} (h : wordM g.ms g.ts g.k s.2 r (g.nx r (tagsOf s.1 r)) = wd) (h1 : wd ≠ "kept") (h2 : wd ≠ "barred") : stepM g s (true, r) = (wd, s) := by
  unfold stepM
  rw [if_neg (show ¬ (true = false) by decide), h, if_neg (fun z => z.elim h1 h2)]
theorem step_go {g : Ldg} {s : List Deed × Stand} {r : Nat} {wd : Str} {t : Int} (h : wordM g.ms g.ts g.k s.2 r (g.nx r (tagsOf s.1 r)) = wd) (ht : g.nx r (tagsOf s.1 r) = .int t) (h1 : wd = "kept" ∨ wd = "barred") : stepM g s (true, r) = (wd, dn g.ms s (.give r t)) := by
  unfold stepM
  rw [if_neg (show ¬ (true = false) by decide), h, if_pos h1, ht]
  rfl
theorem heldL_afterD (ms : List Nat) (st : Stand) (d : Deed) : heldL (afterM ms st d) = (heldL st).set (roomD d) (.bool (match d with | .give _ _ => true | .back _ => false)) := by
  unfold heldL afterM
  cases d <;> simp [List.map_set, roomD, hereM]
theorem range_set {α : Type} (f f' : Nat → α) (n r : Nat) (h : ∀ i, i ≠ r → f' i = f i) : ((List.range n).map f).set r (f' r) = (List.range n).map f' := by
  refine List.ext_getElem? fun i => ?_
  rw [List.getElem?_set, List.getElem?_map, List.getElem?_map, List.length_map, List.length_range]
  by_cases e : r = i
  · subst e
    rw [if_pos rfl]
    by_cases hr : r < n
    · rw [if_pos hr, List.getElem?_range hr]
      rfl
    · rw [if_neg hr, List.getElem?_eq_none (by rw [List.length_range]; omega)]
      rfl
  · rw [if_neg e]
    by_cases hi : i < n
    · rw [List.getElem?_range hi]
      show some (f i) = some (f' i)
      rw [h i (Ne.symm e)]
    · rw [List.getElem?_eq_none (by rw [List.length_range]; omega)]
      rfl
end K20
end
section
set_option linter.all false
set_option maxRecDepth 100000
set_option maxHeartbeats 2000000
set_option autoImplicit false
namespace K20
open PySem PySem.Spec PyProof.Rows L2 LamX NdefX PySem.W
section
variable {B : List Addr} {m m' : Md} {K : PySem.W.Frag} {σ : L2.St} {H H' : Hp} {ta tb te tx ti tx2 ti2 : TE} {tA : TA} {v : V} {r : Dx} {a b : PyData} {D : Ends} {tz tu : TS} {p p2 : Addr}
/-- x, y, z = two new lists and a thing -/
theorem z_par3 {i j l : Nat} {xs ys : List PyData} (k : m.ok H) (h : EvN m K te σ H xs) (h2 : ∀ m' H', Stp B m m' H H' → EvN m' K tx σ H' ys) (h3 : ∀ m' H', Stp B m m' H H' → EvD m' K tb σ H' r) (q : ∀ p p2 w H2, Stp B m ((m.hide p).hide p2) H H2 → H p = none → H p2 = none → p ≠ p2 → Own ((m.hide p).hide p2) K H2 p xs → Own ((m.hide p).hide p2) K H2 p2 ys → Is ((m.hide p).hide p2) K H2 w r → tz D (((σ.set i (some (.ref p))).set j (some (.ref p2))).set l (some w)) H2) :
    tSeq (tAsg (tTup (tCons te (tCons tx (tCons tb tNil)))) (gTup K 3 (gCons (gName i) (gCons (gName j) (gCons (gName l) gNil))))) tz D σ H := h H (R.refl k) _ fun H1 p vs e1 hp hd => by
  have s1 : Stp B m (m.hide p) H (upd H1 p (.lst vs)) := (Stp.of_r e1).trans (Stp.hide e1.ok hp)
  refine h2 _ _ s1 _ (R.refl s1.ok) _ fun H2 p2 ws e2 hp2 hd2 => ?_
  have s2 : Stp B m ((m.hide p).hide p2) H (upd H2 p2 (.lst ws)) := (s1.then_r e2).trans (Stp.hide e2.ok hp2)
  have o1 : Own (m.hide p) K (upd H1 p (.lst vs)) p xs := own_new e1.ok hp hd
  refine h3 _ _ s2 _ (R.refl s2.ok) _ fun w H3 e3 iw => ⟨by show 3 ≤ sizeLine; decide, fun T hT => ?_⟩
  have e4 : ((m.hide p).hide p2).R H3 (upd H3 T (.tup [.ref p, .ref p2, w])) := R.new e3.ok hT
  have e34 := R.trans e3 e4
  have ne : p ≠ p2 := fun z => by
    obtain ⟨_, us, h1, _⟩ := o1.go e2
    rw [z, hp2] at h1
    cases h1
  exact ⟨T, _, rfl, .inl (.inl upd_same), rfl, _, _, rfl, _, _, rfl, _, _, rfl, rfl, q p p2 w _ (s2.then_r e34) (e1.dom p hp) (s1.dom _ (e2.dom p2 hp2)) ne (((o1.go e2).hide e2.ok hp2).go e34) ((own_new e2.ok hp2 hd2).go e34) (iw.mono e4)⟩
/-- l[i], l2[i2] = a, b -/
theorem z_set2 {xs ys : List PyData} {j j2 : Nat} (k : m.ok H) (hv : EvA m K tA σ H [.d a, .d b]) (o : Own m K H p xs) (o2 : Own m K H p2 ys) (ne : p ≠ p2) (h1 : ∀ H', Stp B m m H H' → EvD m K te σ H' (.v (.ref p)) ∧ EvD m K ti σ H' (.d (.int (j : Int)))) (h2 : ∀ H', Stp B m m H H' → EvD m K tx2 σ H' (.v (.ref p2)) ∧ EvD m K ti2 σ H' (.d (.int (j2 : Int))))
    (hj : j < xs.length) (hj2 : j2 < ys.length) (hB : p ∉ B) (hB2 : p2 ∉ B) (q : ∀ H1, Stp B m m H H1 → Own m K H1 p (xs.set j a) → Own m K H1 p2 (ys.set j2 b) → D.nx σ H1) :
    tAsg (tTup tA) (gTup K 2 (gCons (gSub te ti rSetL) (gCons (gSub tx2 ti2 rSetL) gNil))) D σ H := hv H (R.refl k) _ fun vs H1 e1 i1 => ⟨by rw [isAll_len i1]; show 2 ≤ sizeLine; decide, fun T hT => by
  obtain ⟨x, y, rfl, ix, iy⟩ := isAll2 i1
  have e2 : m.R H1 (upd H1 T (.tup [x, y])) := R.new e1.ok hT
  have e12 := R.trans e1 e2
  refine ⟨T, _, rfl, .inl (.inl upd_same), rfl, _, _, rfl, ?_⟩
  have s2 : Stp B m m H (upd H1 T (.tup [x, y])) := Stp.of_r e12
  refine (h1 _ s2).1 _ (R.refl s2.ok) _ fun v3 H3 e3 i3 => (h1 _ (s2.then_r e3)).2 _ (R.refl e3.ok) _ fun v4 H4 e4 i4 => ?_
  obtain rfl : v3 = .ref p := i3
  rw [show v4 = .int (j : Int) from dp_int (i4 : Dp K (m.vw H4) v4 (.int (j : Int)))]
  have e14 := R.trans (R.trans e12 e3) e4
  have e24 := R.trans (R.trans e2 e3) e4
  obtain ⟨hp, vs1, g1, g2⟩ := o.go e14
  have hl := dpAll_len g2
  refine ⟨p, vs1, (j : Int), j, rfl, rfl, g1, ?_, ?_⟩
  · unfold ixN
    rw [if_pos (by omega), if_pos (by omega)]
    rfl
  have s5 : Stp B m m H (upd H4 p (.lst (vs1.set j x))) := (Stp.of_r e14).trans (Stp.put e4.ok hp hB)
  have o5 : Own m K (upd H4 p (.lst (vs1.set j x))) p (xs.set j a) := own_put e4.ok hp (dpAll_set j (ix.mono e24) g2)
  have o25 : Own m K (upd H4 p (.lst (vs1.set j x))) p2 ys := (o2.go e14).put e4.ok hp (Ne.symm ne)
  have iy5 : Is m K (upd H4 p (.lst (vs1.set j x))) y (.d b) := by
    have w5 : m.W [p] H4 (upd H4 p (.lst (vs1.set j x))) := W.put e4.ok hp (List.mem_cons_self ..)
    exact Dp.mono w5.ex _ _ (iy.mono e24)
  refine ⟨_, _, rfl, (h2 _ s5).1 _ (R.refl s5.ok) _ fun v6 H6 e6 i6 => (h2 _ (s5.then_r e6)).2 _ (R.refl e6.ok) _ fun v7 H7 e7 i7 => ?_⟩
  obtain rfl : v6 = .ref p2 := i6
  rw [show v7 = .int (j2 : Int) from dp_int (i7 : Dp K (m.vw H7) v7 (.int (j2 : Int)))]
  have e67 := R.trans e6 e7
  obtain ⟨hp2, vs2, g3, g4⟩ := o25.go e67
  have hl2 := dpAll_len g4
  refine ⟨p2, vs2, (j2 : Int), j2, rfl, rfl, g3, ?_, ?_⟩
  · unfold ixN
    rw [if_pos (by omega), if_pos (by omega)]
    rfl
  exact ⟨rfl, q _ ((s5.then_r e67).trans (Stp.put e7.ok hp2 hB2)) ((o5.go e67).put e7.ok hp2 ne) (own_put e7.ok hp2 (dpAll_set j2 (iy5.mono e67) g4))⟩⟩
end
section
variable {P : Program} {w : World} {K : PySem.W.Frag} {mg : Str → Option Value} {base : Heap}
def ledAns (g : Ldg) (row : List Ask) : PyData := .tuple [dDeeds (ledM g row ([], begunM g.ms)).1, .str (ledM g row ([], begunM g.ms)).2]
abbrev spLawLed (K : PySem.W.Frag) : Sp := SpF K (fun a : Wb × Nat × (Bool × List (List Int) × Late) × List Ask => [.d (dSpec a.1.1 a.1.2), .d (.int (a.2.1 : Int)), .d (dSeq a.2.2.1.1 (a.2.2.1.2.1.map dInts)), .d (dLate a.2.2.1.2.2), .d (dRow a.2.2.2)])
  (fun a => WebOk a.1.1 a.1.2 ∧ 1 ≤ a.2.1 ∧ RowsOk a.1.1.length a.2.2.1.2.1 ∧ (∀ x ∈ a.2.2.2, x.2 < a.1.1.length) ∧ a.2.2.2.length ≤ 1000)
  (fun a => .d (ledAns ⟨a.1.1.length, nextM a.2.2.1.2.1 a.2.2.1.2.2, a.1.1, a.1.2, a.2.1⟩ a.2.2.2))
def heldD (st : Stand) : PyData → Bool
  | .int o => (at_ st o.toNat).1
  | _ => false
def lastD (s : List Deed) : PyData → PyData
  | .int o => .int (lastT (tagsOf s o.toNat))
  | _ => .none
theorem sc_law_led : FnScope ["_law_spec_here", "_law_k", "_law_turns_here", "_law_late_here", "_law_row_here", "_law_tags", "_law_held", "_law_past", "_law_word", "_law_room", "_law_tag", "_law_shown", "_law_other"] ["_law_spec_here", "_law_k", "_law_turns_here", "_law_late_here", "_law_row_here"] (defScope s_law_led) := ⟨rfl, rfl, rfl, by decide +kernel, rfl, by decide +kernel, by decide +kernel⟩
theorem ok_law_led (T : Top K mg) : Cal P w K mg base 2 "_law_led" ["_law_spec_here", "_law_k", "_law_turns_here", "_law_late_here", "_law_row_here"] (spLawLed K) := by
  have G := T.G
  refine T.d_law_led.cal sc_law_led (fun _ _ _ _ _ _ us hl => match us, hl with | [_, _, _, _, _], _ => rfl) (fun _ => rfl) (fun f cdv A outer s H0 E hr => ?_)
  refine ⟨_, (pss_cons (ps_asg (pe_tup (pa_cons (pe_op op_rep (pe_lst (pa_cons (pe_tup pa_nil) pa_nil)) (pe_callB call_len_seq (by rfl) G.len_ (by decide +kernel) (pa_cons (pe_ix ix_tup (pv 0) pe_int (fun _ _ => rfl)) pa_nil))) (pa_cons (pe_op op_rep (pe_lst (pa_cons pe_bl pa_nil)) (pe_callB call_len_seq (by rfl) G.len_ (by decide +kernel) (pa_cons (pe_ix ix_tup (pv 0) pe_int (fun _ _ => rfl)) pa_nil))) (pa_cons (pe_tup pa_nil) pa_nil)))) (pg_tup rfl (pgs_cons (pg_name (i := 5) sc_law_led.nd rfl (Or.inr rfl)) (pgs_cons (pg_name (i := 6) sc_law_led.nd rfl (Or.inr rfl)) (pgs_cons (pg_name (i := 7) sc_law_led.nd rfl (Or.inl rfl)) pgs_nil)))))
    (pss_cons (ps_for PassesOwn.never rfl (pi_tup (pv 4)) (pg_tup rfl (pgs_cons (pg_name (i := 8) sc_law_led.nd rfl (Or.inl rfl)) (pgs_cons (pg_name (i := 9) sc_law_led.nd rfl (Or.inl rfl)) pgs_nil)))
    (pss_one (ps_if (pt_cmpR op_eq (pv 8) pe_str (nomark _)) (pss_cons (ps_asg pe_bl (pg_sub (pv 6) (pv 9) set_list))
    (pss_one (ps_set (i := 7) sc_law_led.nd rfl (Or.inl rfl) (pe_op op_catA (pv 7) (pe_tup (pa_cons (pe_tup (pa_cons pe_str (pa_cons (pv 9) pa_nil))) pa_nil)))))) (pss_cons (ps_set (i := 10) sc_law_led.nd rfl (Or.inl rfl) (pe_cal (ok_law_next T) (hr.mono (by decide)) (by rfl) (pa_cons (pv 2) (pa_cons (pv 3) (pa_cons (pv 9) (pa_cons (pe_ix ix_list (pv 5) (pv 9) (fun _ _ => rfl)) pa_nil))))))
    (pss_cons (ps_if (PW.pt (pw_or (pt_cmpR op_isN (pv 10) pe_non (nomark _)) (pw_or1 (pt_not (pt_val (pe_cal (ok_law_is_whole T) (hr.mono (by decide)) (by rfl) (pa_cons (pv 10) (pa_cons pe_int (pa_cons (pe_op op_sub (pv 1) pe_int) pa_nil))))))))) (pss_one (ps_ret (pe_tup (pa_cons (pv 7) (pa_cons (pe_ifExp (pt_cmpR op_isN (pv 10) pe_non (nomark _)) pe_str pe_str) pa_nil))))) pss_nil)
    (pss_cons (ps_setLc (i := 11) (own := [("_law_other", 12)]) (g := (gName 12)) (tt := (tB (tOp (rIxL K) (tVar 6) (tVar 12)))) (te := (tOp (rIxT K) (tOp (rIxL K) (tVar 5) (tVar 12)) (tUn (rU fun i => .int (-i)) (tC (.int 1))))) rfl sc_law_led.nd rfl rfl (sw_true rfl rfl rfl (by decide +kernel)) (pi_list (pe_cal (ok_law_tied T) (hr.mono (by decide)) (by rfl) (pa_cons (pv 0) (pa_cons (pv 9) pa_nil)))) (blkOk_by (own := [("_law_other", 12)]) (by kernel_rfl)) (fun _ _ _ _ _ => (pg_name (i := 12) sc_law_led.nd rfl (Or.inl rfl))) (fun _ _ _ _ _ => (pts_one (pt_val (pe_ix ix_list (pv 6) (pv 12) (fun _ _ => rfl))))) (fun _ _ _ _ _ => (pe_ix ix_tup (pe_ix ix_list (pv 5) (pv 12) (fun _ _ => rfl)) (pe_un un_neg pe_int) (fun _ _ => rfl))))
    (pss_cons (ps_set (i := 7) sc_law_led.nd rfl (Or.inl rfl) (pe_op op_catA (pv 7) (pe_tup (pa_cons (pe_tup (pa_cons pe_str (pa_cons (pv 9) (pa_cons (pv 10) pa_nil)))) pa_nil))))
    (pss_cons (ps_if (PW.pt (pw_or (pt_cmpR op_in_seq (pv 10) (pv 11) (by rfl)) (pw_or1 (pt_cmpR op_in_seq (pv 10) (pe_slice sl_tupA (pe_ix ix_list (pv 5) (pv 9) (fun _ _ => rfl)) (po_some (pe_callB (call_max2 rfl) (by rfl) G.max_ (by decide +kernel) (pa_cons pe_int (pa_cons (pe_op op_sub (pe_callB call_len_seq (by rfl) G.len_ (by decide +kernel) (pa_cons (pe_ix ix_list (pv 5) (pv 9) (fun _ _ => rfl)) pa_nil)) (pe_ix ix_tup (pe_ix ix_tup (pv 0) pe_int (fun _ _ => rfl)) (pv 9) (fun _ _ => rfl))) pa_nil)))) po_none) (by rfl))))) (pss_one (ps_ret (pe_tup (pa_cons (pv 7) (pa_cons pe_str pa_nil))))) pss_nil)
    (pss_one (ps_asg (pe_tup (pa_cons (pe_op op_catA (pe_ix ix_list (pv 5) (pv 9) (fun _ _ => rfl)) (pe_tup (pa_cons (pv 10) pa_nil))) (pa_cons pe_bl pa_nil))) (pg_tup rfl (pgs_cons (pg_sub (pv 5) (pv 9) set_list) (pgs_cons (pg_sub (pv 6) (pv 9) set_list) pgs_nil)))))))))))))
    (pss_one (ps_ret (pe_tup (pa_cons (pv 7) (pa_cons pe_str pa_nil))))))), ?_⟩
  intro m ⟨⟨ms, ts⟩, k', ⟨bb, tn, late⟩, row⟩ H vs Q k i0 ⟨hw, hk1, hrows, hroom, hz⟩ q
  obtain ⟨v, v2, v3, v4, v5, rfl, i1, i2, i3, i4, i5⟩ := isAll5 (show IsAll m K H vs [.d (dSpec ms ts), .d (.int (k' : Int)), .d (dSeq bb (tn.map dInts)), .d (dLate late), .d (dRow row)] from i0)
  simp only at hw hk1 hrows hroom hz
  let g : Ldg := ⟨ms.length, nextM tn late, ms, ts, k'⟩
  replace q : ∀ v H', m.R H H' → Is m K H' v (.d (ledAns g row)) → Q v H' := fun v H' e i => q _ v H' e rfl i
  have hn5 := hw.n5
  have hBk : ∀ p, H p = none → p ∉ m.lo := fun p hp z => by
    obtain ⟨o, ho, _⟩ := k.lo p z
    rw [hp] at ho
    cases ho
  have hlen : ∀ {m' : Md} {H' : Hp}, Is m' K H' v (.d (dSpec ms ts)) → ∀ {σ : L2.St}, σ[0]? = some (some v) → EvD m' K (tCB (rLenS K) (tCons (tOp (rIxT K) (tVar 0) (tC (.int 0))) tNil)) σ H' (.d (.int (ms.length : Int))) := fun j σ h => (ev_lenT (ev_ixT (ds := [dNats ms, dPairs ts]) (ev_var h j) ev_int rfl)).is (by rw [List.length_map])
  refine z_par3 (B := m.lo) (K := K) (xs := List.replicate ms.length (dInts [])) (ys := List.replicate ms.length (.bool false)) (r := .d (dDeeds [])) k (en_rep (ev_lst (ds := [dInts []]) (ea_cons (ev_tup (ds := []) ea_nil) ea_nil)) (hlen i1 rfl) (by omega)) (fun m' H' s => en_rep (ev_lst (ds := [.bool false]) (ea_cons ev_bl ea_nil)) (hlen (s.is i1) rfl) (by omega)) (fun m' H' s => ev_tup (ds := []) ea_nil) fun p p2 vp H2 s2 hp hp2 ne o1 o2 ip => ?_
  have hB := hBk p hp
  have hB2 := hBk p2 hp2
  let mm := (m.hide p).hide p2
  let tgs : List Deed → List PyData := fun l => (List.range ms.length).map fun r => dInts (tagsOf l r)
  refine z_forT (B := m.lo) (m := mm) (ds := row.map dAsk) s2.ok (ev_var (r := .d (dRow row)) rfl (s2.is i5)) (fun i m' σ' H' => m' = mm ∧ ∃ s : List Deed × Stand, (∃ vp a b c d e, σ' = [some v, some v2, some v3, some v4, some v5, some (.ref p), some (.ref p2), some vp, a, b, c, d, e] ∧ Is mm K H' vp (.d (dDeeds s.1))) ∧ LInv ms s ∧ s.1.length ≤ i ∧ Own mm K H' p (tgs s.1) ∧ Own mm K H' p2 (heldL s.2) ∧ ledM g row ([], begunM ms) = ledM g (row.drop i) s)
    (fun H3 e3 => ⟨rfl, ([], begunM ms), ⟨vp, _, _, _, _, _, rfl, ip.mono e3⟩, linv_begun ms, Nat.le_refl _, ?_, ?_, rfl⟩) (fun H3 i dd vd m' σ' H' hd e3 s3 pv id => ?_) fun m' σ' H' s3 pv => ?_
  · have h0 : tgs [] = List.replicate ms.length (dInts []) := by
      refine List.eq_replicate_iff.mpr ⟨by rw [List.length_map, List.length_range], fun b hb => ?_⟩
      obtain ⟨r, _, rfl⟩ := List.mem_map.mp hb
      rfl
    rw [h0]
    exact o1.go e3
  · have h0 : heldL (begunM ms) = List.replicate ms.length (.bool false) := by unfold heldL begunM; simp
    rw [h0]
    exact o2.go e3
  · obtain ⟨rfl, s, ⟨vp, a, b, c, d, e, rfl, ip⟩, hinv, hl, ow, ow2, hled⟩ := pv
    rw [List.getElem?_map] at hd
    obtain ⟨ask, hask, rfl⟩ := Option.map_eq_some_iff.mp hd
    have hlt := (List.getElem?_eq_some_iff.mp hask).1
    have hdr : row.drop i = ask :: row.drop (i + 1) := by
      rw [List.drop_eq_getElem_cons hlt, (List.getElem?_eq_some_iff.mp hask).2]
    rw [hdr, ledM_cons] at hled
    have hr' := hroom ask (List.mem_of_getElem? hask)
    have s4 : Stp m.lo m mm H H' := (s2.then_r e3).trans s3
    obtain ⟨ga, r⟩ := ask
    have hr' : r < ms.length := hr'
    refine g_pair id fun x y ix iy => ?_
    have hlen3 : s.1.length < 1000 := by omega
    have htl : (tgs s.1).length = ms.length := by rw [List.length_map, List.length_range]
    have hhl : (heldL s.2).length = ms.length := by
      unfold heldL
      rw [List.length_map, hinv.len]
    have tag_at : (tgs s.1)[r]? = some (dInts (tagsOf s.1 r)) := by
      rw [List.getElem?_map, List.getElem?_range hr']
      rfl
    have hml : s.2.length = ms.length := hinv.len
    refine s_if (b := decide (word ga = ("back" : Str))) s4.ok (et_test (ev_eqS (ev_var rfl ix) ev_str)) (fun hb H4 e4 => ?_) fun hb H4 e4 => ?_
    · have hga : ga = false := by
        cases ga with
        | false => rfl
        | true => exact absurd (of_decide_eq_true hb) (by decide)
      subst hga
      rw [step_back, if_pos rfl] at hled
      have s5 := s4.then_r e4
      refine z_set (B := m.lo) (a := .bool false) (j := r) s5.ok (ev_var rfl rfl) (ow2.go e4) (ev_var rfl (iy.mono e4)) ev_bl (by omega) hB2 fun H5 s6 oth o6 => ?_
      have ip6 := s6.fix (ip.mono e4) rfl
      have iy6 := s6.fix (iy.mono e4) rfl
      refine s_asg s6.ok (ev_catT (ds := s.1.map dDeed) (es := [dDeed (.back r)]) (ev_var rfl ip6) (ev_tup (ds := [dDeed (.back r)]) (ea_cons (ev_tup (ds := [.str (word false), .int (r : Int)]) (ea_cons ev_str (ea_cons (ev_var rfl iy6) ea_nil))) ea_nil)) (by rw [List.length_map]; simp only [List.length_singleton]; omega)) fun vq H6 e6 iq => ⟨mm, ((s3.then_r e4).trans s6).then_r e6, rfl, dn ms s (.back r), ⟨vq, _, _, _, _, _, rfl, ?_⟩, linv_dn hinv _ hr', by show (s.1 ++ [_]).length ≤ _; rw [List.length_append]; simp only [List.length_singleton]; omega, ?_, ?_, hled⟩
      · show Is mm K H6 vq (.d (.tuple ((s.1 ++ [Deed.back r]).map dDeed)))
        rw [List.map_append]
        exact iq
      · have h0 : tgs (s.1 ++ [Deed.back r]) = tgs s.1 := List.map_congr_left fun r' _ => by
          rw [tagsOf_snoc]
          show dInts (tagsOf s.1 r' ++ []) = _
          rw [List.append_nil]
        show Own mm K H6 p (tgs (s.1 ++ [Deed.back r]))
        rw [h0]
        exact (oth p _ ne (ow.go e4)).go e6
      · show Own mm K H6 p2 (heldL (afterM ms s.2 (.back r)))
        rw [heldL_afterD]
        exact o6.go e6
    · have hga : ga = true := by
        cases ga with
        | false => exact absurd hb (by decide)
        | true => rfl
      subst hga
      obtain ⟨hrt, hrne⟩ := rows_at hrows hr'
      have s5 := s4.then_r e4
      have tagR : ∀ {σ : L2.St} {H5 : Hp}, mm.R H' H5 → σ[5]? = some (some (.ref p)) → σ[9]? = some (some y) → EvD mm K (tOp (rIxL K) (tVar 5) (tVar 9)) σ H5 (.d (dInts (tagsOf s.1 r))) := fun e5 h5 h9 => ev_ixL (EvD.to_rl (ev_var h5 rfl) (ow.go e5)) (ev_var h9 (iy.mono e5)) (atI_nat tag_at)
      refine q_asg s5.ok (ev_call (x := ((bb, tn, late), r, tagsOf s.1 r)) (ea_cons (ev_var rfl (s5.is i3)) (ea_cons (ev_var rfl (s5.is i4)) (ea_cons (ev_var rfl (iy.mono e4)) (ea_cons (tagR e4 rfl rfl) ea_nil)))) ⟨hrt, hrne⟩) fun vg H5 e5 ig => ?_
      replace ig : Is mm K H5 vg (.d (g.nx r (tagsOf s.1 r))) := ig
      have e45 := R.trans e4 e5
      have s6 := s5.then_r e5
      refine q_when (b := isNon (g.nx r (tagsOf s.1 r)) || !within (g.nx r (tagsOf s.1 r)) 0 ((k' : Int) - 1)) s6.ok (et_or (et_test (ev_isN (ev_var rfl ig))) fun _ => et_not (et_B (ev_call (x := (g.nx r (tagsOf s.1 r), (0 : Int), (k' : Int) - 1)) (ea_cons (ev_var rfl ig) (ea_cons ev_int (ea_cons (ev_ii (ev_var rfl (s6.is i2)) ev_int) ea_nil))) True.intro))) (fun hb H6 e6 => ?_) fun hb H6 e6 => ?_
      · have s7 := s6.then_r e6
        have hwd := word_stop (ms := ms) (ts := ts) (r := r) hk1 (st := s.2) hb
        have hst : stepM g s (true, r) = (if isNon (g.nx r (tagsOf s.1 r)) = true then ("stuck" : Str) else ("odd" : Str), s) := step_stop hwd (by split <;> decide) (by split <;> decide)
        have hled2 : ledM g row ([], begunM ms) = (s.1, if isNon (g.nx r (tagsOf s.1 r)) = true then ("stuck" : Str) else ("odd" : Str)) := by
          rw [hled, hst]
          exact if_neg (by show ¬ (if _ then _ else _) = _; split <;> decide)
        refine s_ret (K := K) s7.ok (ev_tup (ds := [dDeeds s.1, .str (if isNon (g.nx r (tagsOf s.1 r)) = true then ("stuck" : Str) else ("odd" : Str))]) (ea_cons (ev_var rfl ((ip.mono e45).mono e6)) (ea_cons (ev_if (et_test (ev_isN (ev_var rfl (ig.mono e6)))) (fun hn => ?_) fun hn => ?_) ea_nil))) fun vr H7 e7 i7 => q _ H7 (s7.then_r e7).r ?_
        · rw [if_pos hn]
          exact ev_str
        · rw [if_neg (by rw [hn]; decide)]
          exact ev_str
        · show Is m K H7 vr (.d (.tuple [dDeeds (ledM g row ([], begunM ms)).1, .str (ledM g row ([], begunM ms)).2]))
          rw [hled2]
          exact (s7.then_r e7).out i7
      · obtain ⟨t, ht, hwd⟩ := word_go (ms := ms) (ts := ts) (r := r) (st := s.2) hb
        have s7 := s6.then_r e6
        have e46 := R.trans e45 e6
        have ig6 : Is mm K H6 vg (.d (.int t)) := by
          have := ig.mono e6
          rw [ht] at this
          exact this
        let sh := shownM ms.length ts s r
        have hshown : EvD mm K (tLc (iList K (tCall (spLawTied K) [] E0 (tCons (tVar 0) (tCons (tVar 9) tNil)))) (gName 12) (tB (tOp (rIxL K) (tVar 6) (tVar 12))) (tOp (rIxT K) (tOp (rIxL K) (tVar 5) (tVar 12)) (tUn (rU fun i => .int (-i)) (tC (.int 1)))) [12]) [some v, some v2, some v3, some v4, some v5, some (.ref p), some (.ref p2), some vp, some x, some y, some vg, d, e] H6 (.tl (sh.map .int)) := by
          refine EvD.is (r := .tl (((((List.range ms.length).filter (tied ts r)).map fun (n : Nat) => PyData.int (n : Int)).filter (heldD s.2)).map (lastD s.1))) (ev_lcL (heldD s.2) (lastD s.1) (ev_tl (ev_call (x := ((ms, ts), r)) (ea_cons (ev_var rfl (s7.is i1)) (ea_cons (ev_var rfl (iy.mono e46)) ea_nil)) (by show ms.length ≤ 100; omega))) (by rw [List.length_map]; have := List.length_filter_le (tied ts r) (List.range ms.length); rw [List.length_range] at this; omega) (fun _ => rfl) (fun m2 H2 d u hd I hi => ?_) (fun m2 H2 d u hd I hi hh => ?_)) ?_
          · obtain ⟨o, ho, rfl⟩ := List.mem_map.mp hd
            have ho' := List.mem_range.mp (List.mem_filter.mp ho).1
            have j2 := I.is _ _ ((ow2.go e46).rl)
            exact et_B (ev_ixL (ev_var rfl j2) (ev_var rfl hi) (atI_nat (heldL_get (by omega))))
          · obtain ⟨o, ho, rfl⟩ := List.mem_map.mp hd
            have ho' := List.mem_range.mp (List.mem_filter.mp ho).1
            have hh' : (at_ s.2 o).1 = true := hh
            have hne := hinv.held o ho' hh'
            have j1 := I.is _ _ ((ow.go e46).rl)
            have hat : (tgs s.1)[o]? = some (dInts (tagsOf s.1 o)) := by
              rw [List.getElem?_map, List.getElem?_range ho']
              rfl
            refine ev_ixT (ds := (tagsOf s.1 o).map .int) (i := -1) (ev_ixL (ev_var rfl j1) (ev_var rfl hi) (atI_nat hat)) (ev_neg ev_int) ?_
            show atI ((tagsOf s.1 o).map PyData.int) (-1) = some (.int (lastT (tagsOf s.1 o)))
            obtain ⟨xs, z, hxz⟩ : ∃ xs z, tagsOf s.1 o = xs ++ [z] := ⟨_, _, (List.dropLast_concat_getLast hne).symm⟩
            rw [hxz]
            unfold lastT atI ixN
            rw [List.length_map, List.length_append, List.length_singleton]
            rw [if_neg (by omega), if_pos (by omega)]
            rw [List.map_append]
            show (xs.map PyData.int ++ [PyData.int z])[((-1 : Int) + ((xs.length + 1 : Nat) : Int)).toNat]? = some (.int ((xs ++ [z]).getLastD 0))
            rw [show ((-1 : Int) + ((xs.length + 1 : Nat) : Int)).toNat = (xs.map PyData.int).length by rw [List.length_map]; omega]
            simp
          · show Dx.tl _ = Dx.tl ((shownM ms.length ts s r).map PyData.int)
            unfold shownM
            rw [List.filter_map, List.map_map, List.map_map, List.filter_filter]
            congr 1
            rw [show (fun a => (heldD s.2 ∘ fun (n : Nat) => PyData.int (n : Int)) a && tied ts r a) = fun o => tied ts r o && (at_ s.2 o).1 from funext fun o => Bool.and_comm ..]
            rfl
        refine q_asg s7.ok hshown fun vs H7 e7 is => ?_
        have e47 := R.trans e46 e7
        have s8 := s7.then_r e7
        refine q_asg s8.ok (ev_catT (ds := s.1.map dDeed) (es := [dDeed (.give r t)]) (ev_var rfl (ip.mono e47)) (ev_tup (ds := [dDeed (.give r t)]) (ea_cons (ev_tup (ds := [.str (word true), .int (r : Int), .int t]) (ea_cons ev_str (ea_cons (ev_var rfl (iy.mono e47)) (ea_cons (ev_var rfl (ig6.mono e7)) ea_nil)))) ea_nil)) (by rw [List.length_map]; simp only [List.length_singleton]; omega)) fun vq H8 e8 iq => ?_
        have e48 := R.trans e47 e8
        have e68 := R.trans e7 e8
        have s9 := s8.then_r e8
        have iq' : Is mm K H8 vq (.d (dDeeds (s.1 ++ [.give r t]))) := by
          show Is mm K H8 vq (.d (.tuple ((s.1 ++ [Deed.give r t]).map dDeed)))
          rw [List.map_append]
          exact iq
        have hbar := bar_law (ts := ts) hinv hr' t
        refine q_when (b := barM ms ts s.2 r t) s9.ok ((et_or (et_test (ev_inL (ev_var rfl (ig6.mono e68)) (ev_tlr (ev_var rfl (is.mono e8))))) fun _ => et_test (ev_inT (ns := (tagsOf s.1 r).drop ((tagsOf s.1 r).length - ms.getD r 0)) (ev_var rfl (ig6.mono e68)) ((ev_slT (ds := (tagsOf s.1 r).map .int) (lo := some (((tagsOf s.1 r).length - ms.getD r 0 : Nat) : Int)) (tagR e48 rfl rfl) (eo_some ((ev_i2 (g := fun i j => if j > i then j else i) ev_int (ev_ii (ev_lenT (ds := (tagsOf s.1 r).map .int) (tagR e48 rfl rfl)) (ev_ixT (ds := ms.map fun (n : Nat) => PyData.int (n : Int)) (a := .int ((ms.getD r 0 : Nat) : Int)) (ev_ixT (ds := [dNats ms, dPairs ts]) (ev_var rfl (s9.is i1)) ev_int rfl) (ev_var rfl (iy.mono e48)) (atI_nat ?_)))).is ?_)) eo_none).is (by rw [cutD_ints])))).is hbar) (fun hb2 H9 e9 => ?_) fun hb2 H9 e9 => ?_
        · rw [List.getElem?_map, List.getElem?_eq_getElem hr', List.getD_eq_getElem?_getD, List.getElem?_eq_getElem hr']
          rfl
        · rw [List.length_map]
          congr 2
          split <;> omega
        · have s10 := s9.then_r e9
          rw [if_pos hb2] at hwd
          have hst := step_go (g := g) (s := s) hwd ht (.inr rfl)
          have hled2 : ledM g row ([], begunM ms) = (s.1 ++ [.give r t], ("barred" : Str)) := by
            rw [hled, hst]
            exact if_neg (by show ¬ (("barred" : Str) = "kept"); decide)
          refine s_ret (K := K) s10.ok (ev_tup (ds := [dDeeds (s.1 ++ [.give r t]), .str "barred"]) (ea_cons (ev_var rfl (iq'.mono e9)) (ea_cons ev_str ea_nil))) fun vr H10 e10 i10 => q _ H10 (s10.then_r e10).r ?_
          show Is m K H10 vr (.d (.tuple [dDeeds (ledM g row ([], begunM ms)).1, .str (ledM g row ([], begunM ms)).2]))
          rw [hled2]
          exact (s10.then_r e10).out i10
        · have s10 := s9.then_r e9
          rw [if_neg (by rw [hb2]; decide)] at hwd
          have hst := step_go (g := g) (s := s) hwd ht (.inl rfl)
          rw [hst] at hled
          replace hled : ledM g row ([], begunM ms) = ledM g (row.drop (i + 1)) (dn ms s (.give r t)) := hled
          have e49 := R.trans e48 e9
          refine z_set2 (B := m.lo) (j := r) (j2 := r) s10.ok (a := dInts (tagsOf (s.1 ++ [.give r t]) r)) (b := .bool true) (ea_cons ((ev_catT (ds := (tagsOf s.1 r).map .int) (es := [.int t]) (tagR e49 rfl rfl) (ev_tup (ds := [.int t]) (ea_cons (ev_var rfl (ig6.mono (R.trans e68 e9))) ea_nil)) ?_).is ?_) (ea_cons ev_bl ea_nil)) (ow.go e49) (ow2.go e49) ne (fun H11 s11 => ⟨ev_var rfl rfl, ev_var rfl (s11.fix (iy.mono e49) rfl)⟩) (fun H11 s11 => ⟨ev_var rfl rfl, ev_var rfl (s11.fix (iy.mono e49) rfl)⟩) (by omega) (by omega) hB hB2 fun H11 s11 o11 o12 => ⟨mm, (s3.then_r e49).trans s11, rfl, dn ms s (.give r t), ⟨vq, _, _, _, _, _, rfl, s11.fix (iq'.mono e9) rfl⟩, linv_dn hinv _ hr', by show (s.1 ++ [_]).length ≤ _; rw [List.length_append]; simp only [List.length_singleton]; omega, ?_, ?_, hled⟩
          · have htlen : (tagsOf s.1 r).length ≤ s.1.length := List.length_filterMap_le ..
            rw [List.length_map]
            simp only [List.length_singleton]
            omega
          · rw [tagsOf_snoc]
            show Dx.d (.tuple ((tagsOf s.1 r).map PyData.int ++ [.int t])) = Dx.d (.tuple ((tagsOf s.1 r ++ if r = r then [t] else []).map PyData.int))
            rw [if_pos rfl, List.map_append]
            rfl
          · show Own mm K H11 p (tgs (s.1 ++ [.give r t]))
            have h0 : tgs (s.1 ++ [.give r t]) = (tgs s.1).set r (dInts (tagsOf (s.1 ++ [.give r t]) r)) := (range_set (fun r' => dInts (tagsOf s.1 r')) (fun r' => dInts (tagsOf (s.1 ++ [.give r t]) r')) ms.length r fun r' hne => by
              show dInts (tagsOf (s.1 ++ [.give r t]) r') = dInts (tagsOf s.1 r')
              rw [tagsOf_snoc]
              show dInts (tagsOf s.1 r' ++ if r = r' then [t] else []) = _
              rw [if_neg (Ne.symm hne), List.append_nil]).symm
            rw [h0]
            exact o11
          · show Own mm K H11 p2 (heldL (afterM ms s.2 (.give r t)))
            rw [heldL_afterD]
            exact o12
  · obtain ⟨rfl, s, ⟨vp, a, b, c, d, e, rfl, ip⟩, hinv, hl, ow, ow2, hled⟩ := pv
    rw [List.length_map, List.drop_length] at hled
    have s4 : Stp m.lo m mm H H' := s2.trans s3
    refine s_ret (K := K) s4.ok (ev_tup (ds := [dDeeds s.1, .str "kept"]) (ea_cons (ev_var rfl ip) (ea_cons ev_str ea_nil))) fun vr H5 e5 i5 => q _ H5 (s4.then_r e5).r ?_
    have hled : ledM g row ([], begunM g.ms) = (s.1, ("kept" : Str)) := hled
    unfold ledAns
    rw [hled]
    exact (s4.then_r e5).out i5
end
end K20
end
section
set_option linter.all false
set_option maxRecDepth 100000
set_option maxHeartbeats 2000000
set_option autoImplicit false
namespace K20
open PySem PySem.Spec PyProof.Rows L2 LamX NdefX PySem.W
theorem ints_nats (l : List Nat) : (l.map fun (n : Nat) => PyData.int (n : Int)) = (l.map fun (n : Nat) => (n : Int)).map PyData.int := by rw [List.map_map]; rfl
theorem sum_le3 : ∀ {ms : List Nat}, (∀ m ∈ ms, m ≤ 3) → (ms.map fun (n : Nat) => (n : Int)).sum ≤ 3 * (ms.length : Int)
  | [], _ => by decide
  | m :: ms, h => by
    have h1 := h m (List.mem_cons_self ..)
    have h2 := sum_le3 fun x hx => h x (List.mem_cons_of_mem _ hx)
    rw [List.map_cons, List.sum_cons, List.length_cons]
    omega
section
variable {P : Program} {w : World} {K : PySem.W.Frag} {mg : Str → Option Value} {base : Heap}
/-! ### check_few_needs -/
abbrev spFewNeeds (K : PySem.W.Frag) : Sp := SpF K (fun a : Wb => [.web a.1 a.2]) (fun a => WebOk a.1 a.2) (fun _ => .d .none)
theorem sc_check_few_needs : FnScope ["web"] ["web"] (defScope s_check_few_needs) := ⟨rfl, rfl, rfl, by decide +kernel, rfl, by decide +kernel, by decide +kernel⟩
theorem ok_check_few_needs (T : Top K mg) : Cal P w K mg base 1 "check_few_needs" ["web"] (spFewNeeds K) := by
  have G := T.G
  obtain ⟨_, gNeeds⟩ := G.mNeeds
  refine T.d_check_few_needs.cal sc_check_few_needs (fun _ _ _ _ _ _ us hl => match us, hl with | [_], _ => rfl) (fun _ => rfl) (fun f cdv A outer s H0 E hr => ?_)
  refine ⟨_, (pss_one (ps_if (pt_cmpR op_gt (pe_op op_add (pe_callB (cr_sumT rfl) (by rfl) G.sum_ (by decide +kernel) (pa_cons (pe_fld (pv 0) rfl) pa_nil)) (pe_callB call_len_seq (by rfl) G.len_ (by decide +kernel) (pa_cons (pe_fld (pv 0) rfl) pa_nil))) (pe_glob (v := .int 24) (by rfl) gNeeds ⟨_, rfl⟩) (nomark _)) (pss_one ps_never) pss_nil)), ?_⟩
  intro m ⟨ms, ts⟩ H vs Q k i0 hw q
  obtain ⟨v, rfl, i1⟩ := isAll1 (show IsAll m K H vs [.web ms ts] from i0)
  simp only at hw
  have hs := sum_le3 hw.mem
  have hn5 := hw.n5
  refine s_when (b := false) k ((et_test (ev_ib (g := fun i j => decide (j < i)) (ev_ii (ev_sumT (ns := ms.map fun (n : Nat) => (n : Int)) ((ev_mems (ev_var rfl i1) G.cW G.nM).is ?_)) (ev_lenT (ev_mems (ev_var rfl i1) G.cW G.nM))) (ev_int (i := 24)))).is ?_) (fun z => absurd z Bool.false_ne_true) fun _ H1 e1 => q _ .non H1 e1 rfl .non
  · unfold dInts
    rw [← ints_nats]
    rfl
  · rw [List.length_map, decide_eq_false_iff_not]
    omega
/-! ### choices -/
def lenLt (c : Nat) : PyData → Bool
  | .tuple xs => decide (xs.length < c)
  | _ => false
def lenEq (c : Nat) : PyData → Bool
  | .tuple xs => decide ((xs.length : Int) = (c : Int))
  | _ => false
def addT (t : Int) : PyData → PyData
  | .tuple xs => .tuple (xs ++ [.int t])
  | d => d
abbrev spChoices (K : PySem.W.Frag) : Sp := SpP K (fun a : List Int × Nat => [.d (.list (a.1.map .int)), .d (.int (a.2 : Int))]) (fun a => a.1.length ≤ 10) (fun a r => ∃ rows : List (List Int), r = .tl (rows.map dInts) ∧ rows.length ≤ 1024 ∧ ∀ row ∈ rows, row.Sublist a.1 ∧ row.length = a.2)
theorem sc_choices : FnScope ["tags", "many", "found", "tag", "row"] ["tags", "many"] (defScope s_choices) := ⟨rfl, rfl, rfl, by decide +kernel, rfl, by decide +kernel, by decide +kernel⟩
theorem ok_choices (T : Top K mg) : Cal P w K mg base 1 "choices" ["tags", "many"] (spChoices K) := by
  have G := T.G
  refine T.d_choices.cal sc_choices (fun _ _ _ _ _ _ us hl => match us, hl with | [_, _], _ => rfl) (fun _ => rfl) (fun f cdv A outer s H0 E hr => ?_)
  refine ⟨_, (pss_cons (ps_set (i := 2) sc_choices.nd rfl (Or.inl rfl) (pe_lst (pa_cons (pe_tup pa_nil) pa_nil)))
    (pss_cons (ps_for PassesOwn.never rfl (pi_list (pv 0)) (pg_name (i := 3) sc_choices.nd rfl (Or.inr rfl))
    (pss_one (ps_set (i := 2) sc_choices.nd rfl (Or.inl rfl) (pe_op op_cat (pv 2) (pe_lc (own := [("row", 4)]) (g := (gName 4)) (tt := (tTest (tOp (rI0 fun i j => .bl (decide (i < j))) (tCB (rLenS K) (tCons (tVar 4) tNil)) (tVar 1)))) (te := (tOp (rCatA K) (tVar 4) (tTup (tCons (tVar 3) tNil)))) rfl sc_choices.nd (pi_list (pv 2)) (blkOk_by (own := [("row", 4)]) (by kernel_rfl)) (fun _ _ _ _ _ => (pg_name (i := 4) sc_choices.nd rfl (Or.inl rfl))) (fun _ _ _ _ _ => (pts_one (pt_cmpR op_lt (pe_callB call_len_seq (by rfl) G.len_ (by decide +kernel) (pa_cons (pv 4) pa_nil)) (pv 1) (nomark _)))) (fun _ _ _ _ _ => (pe_op op_catA (pv 4) (pe_tup (pa_cons (pv 3) pa_nil)))))))))
    (pss_one (ps_ret (pe_lc (own := [("row", 4)]) (g := (gName 4)) (tt := (tTest (tOp rEq (tCB (rLenS K) (tCons (tVar 4) tNil)) (tVar 1)))) (te := (tVar 4)) rfl sc_choices.nd (pi_list (pv 2)) (blkOk_by (own := [("row", 4)]) (by kernel_rfl)) (fun _ _ _ _ _ => (pg_name (i := 4) sc_choices.nd rfl (Or.inl rfl))) (fun _ _ _ _ _ => (pts_one (pt_cmpR op_eq (pe_callB call_len_seq (by rfl) G.len_ (by decide +kernel) (pa_cons (pv 4) pa_nil)) (pv 1) (nomark _)))) (fun _ _ _ _ _ => (pv 4))))))), ?_⟩
  intro m ⟨tags, c⟩ H vs Q k i0 hz q
  obtain ⟨v, v2, rfl, i1, i2⟩ := isAll2 (show IsAll m K H vs [.d (.list (tags.map .int)), .d (.int (c : Int))] from i0)
  simp only at hz
  replace q : ∀ r v H', m.R H H' → (∃ rows : List (List Int), r = .tl (rows.map dInts) ∧ rows.length ≤ 1024 ∧ ∀ row ∈ rows, row.Sublist tags ∧ row.length = c) → Is m K H' v r → Q v H' := q
  have hpow : ∀ i, i ≤ tags.length → 2 ^ i ≤ 1024 := fun i hi => Nat.le_trans (Nat.pow_le_pow_right (by decide) (show i ≤ 10 by omega)) (by decide)
  refine q_asg (K := K) k (ev_lst (ds := [dInts []]) (ea_cons (ev_tup (ds := []) ea_nil) ea_nil)) fun v3 H1 e1 i3 => ?_
  refine q_forL (ps := []) e1.ok (ev_var rfl (i1.mono e1)) (fun i σ' H' => ∃ (rows : List (List Int)) (vf : V) (a b : Option V), σ' = [some v, some v2, some vf, a, b] ∧ Is m K H' vf (.tl (rows.map dInts)) ∧ rows.length ≤ 2 ^ i ∧ ∀ row ∈ rows, row.Sublist (tags.take i))
    (fun H2 e2 => ⟨[[]], v3, _, _, rfl, i3.mono e2, Nat.le_refl _, fun row hr => by rw [List.mem_singleton.mp hr]; exact List.nil_sublist _⟩) (fun H2 i dd vd σ' H' hd e2 w2 pv id => ?_) fun σ' H' w2 pv => ?_
  · obtain ⟨rows, vf, a, b, rfl, jf, hl, hs⟩ := pv
    rw [List.getElem?_map] at hd
    obtain ⟨t, ht, rfl⟩ := Option.map_eq_some_iff.mp hd
    have hi : i < tags.length := (List.getElem?_eq_some_iff.mp ht).1
    have e3 : m.R H H' := R.trans (R.trans e1 e2) w2
    have hp1 := hpow i (by omega)
    have hp2 : 2 ^ (i + 1) = 2 ^ i + 2 ^ i := by rw [Nat.pow_succ]; omega
    have hfl := List.length_filter_le (fun row : List Int => decide (row.length < c)) rows
    refine s_asg w2.ok (ev_catL (ds := rows.map dInts) (es := ((rows.filter fun row => decide (row.length < c)).map (· ++ [t])).map dInts) (ev_var rfl jf) ((ev_lcL (lenLt c) (addT t) (ev_tl (ev_var rfl jf)) (by rw [List.length_map]; omega) (fun _ => rfl) (fun m2 H2 d u hd I hi => ?_) (fun m2 H2 d u hd I hi hh => ?_)).is ?_) (by rw [List.length_map, List.length_map, List.length_map]; omega)) fun vr H3 e4 ir => ⟨W.trans w2 e4, rows ++ (rows.filter fun row => decide (row.length < c)).map (· ++ [t]), vr, _, _, rfl, by rw [List.map_append]; exact ir, by rw [List.length_append, List.length_map]; omega, fun row hr => ?_⟩
    · obtain ⟨row, hrow, rfl⟩ := List.mem_map.mp hd
      refine (et_test (ev_ib (g := fun i j => decide (i < j)) (ev_lenT (ds := row.map .int) (ev_var rfl hi)) (ev_var rfl (I.is _ _ (i2.mono e3))))).is ?_
      show decide (((row.map PyData.int).length : Int) < (c : Int)) = decide ((row.map PyData.int).length < c)
      exact decide_eq_decide.mpr (by omega)
    · obtain ⟨row, hrow, rfl⟩ := List.mem_map.mp hd
      have hrl := (hs row hrow).length_le
      rw [List.length_take] at hrl
      exact ev_catT (ds := row.map .int) (es := [.int t]) (ev_var rfl hi) (ev_tup (ds := [.int t]) (ea_cons (ev_var rfl (I.is _ _ id)) ea_nil)) (by rw [List.length_map]; simp only [List.length_singleton]; omega)
    · rw [List.filter_map, List.map_map, List.map_map]
      have e5 : (lenLt c ∘ dInts) = fun row => decide (row.length < c) := funext fun row => by
        show decide ((row.map PyData.int).length < c) = _
        rw [List.length_map]
      rw [e5]
      congr 1
      refine List.map_congr_left fun row _ => ?_
      show PyData.tuple (row.map PyData.int ++ [.int t]) = .tuple ((row ++ [t]).map PyData.int)
      rw [List.map_append]
      rfl
    · have htk : tags.take (i + 1) = tags.take i ++ [t] := by
        rw [List.take_add_one, ht]
        rfl
      rw [htk]
      rcases List.mem_append.mp hr with h | h
      · exact (hs row h).trans (List.sublist_append_left _ _)
      · obtain ⟨row', h', rfl⟩ := List.mem_map.mp h
        exact (hs row' (List.mem_filter.mp h').1).append (List.Sublist.refl _)
  · obtain ⟨rows, vf, a, b, rfl, jf, hl, hs⟩ := pv
    rw [List.length_map] at hl hs
    have hp1 := hpow _ (Nat.le_refl _)
    have e3 : m.R H H' := R.trans e1 w2
    have hfl := List.length_filter_le (fun row : List Int => decide ((row.length : Int) = (c : Int))) rows
    refine s_ret w2.ok ((ev_lcL (lenEq c) (fun d => d) (ev_tl (ev_var rfl jf)) (by rw [List.length_map]; omega) (fun _ => rfl) (fun m2 H2 d u hd I hi => ?_) (fun m2 H2 d u hd I hi hh => ev_var rfl hi)).is (r1 := .tl ((rows.filter fun row => decide ((row.length : Int) = (c : Int))).map dInts)) ?_) fun vr H3 e4 ir => q _ vr H3 (R.trans e3 e4) ⟨_, rfl, by omega, fun row hr => ?_⟩ ir
    · obtain ⟨row, hrow, rfl⟩ := List.mem_map.mp hd
      exact et_test (ev_eqI (ev_lenT (ds := row.map .int) (ev_var rfl hi)) (ev_var rfl (I.is _ _ (i2.mono e3))))
    · rw [List.filter_map, List.map_map]
      have e5 : (lenEq c ∘ dInts) = fun row => decide ((row.length : Int) = (c : Int)) := funext fun row => by
        show decide (((row.map PyData.int).length : Int) = (c : Int)) = _
        rw [List.length_map]
      rw [e5]
      rfl
    · have h := List.mem_filter.mp hr
      refine ⟨?_, by have := of_decide_eq_true h.2; omega⟩
      have := hs row h.1
      rw [List.take_length] at this
      exact this
end
end K20
end
section
set_option linter.all false
set_option maxRecDepth 100000
set_option maxHeartbeats 2000000
set_option autoImplicit false
namespace K20
open PySem PySem.Spec PyProof.Rows L2 LamX NdefX PySem.W
theorem tiedAll_lt {ms : List Nat} {ts : List (Nat × Nat)} (hw : WebOk ms ts) {room : Nat} {l : List Nat} (h : TiedOk ts room l) : ∀ x ∈ l, x < ms.length := fun x hx => by
  rcases (h.1 x).mp hx with h | h
  · exact (hw.tie _ h).2
  · have := hw.tie _ h
    omega
theorem dNats_shaped2 (a b : Nat) : SeqAt.shaped (dPair (a, b)) = true := shaped_of (dPair_lay _) (by rw [dPair_depth]; decide)
section
variable {m : Md} {K : PySem.W.Frag} {σ : L2.St} {H : Hp} {ta tb : TE}
theorem y_forT {B : List Addr} {D : Ends} {g : TG} {tu : TS} {ds : List PyData} (k : m.ok H) (h : EvD m K ta σ H (.d (.tuple ds))) (Pv : Nat → Md → L2.St → Hp → Prop) (h0 : ∀ H1, m.R H H1 → Pv 0 m σ H1)
    (hs : ∀ H1 i d v m' σ' H', ds[i]? = some d → m.R H H1 → Stp B m m' H1 H' → Pv i m' σ' H' → Is m' K H' v (.d d) → g v σ' H' fun σ2 H2 => tu { D with nx := NxS B m H1 (Pv (i + 1)), ct := NxS B m H1 (Pv (i + 1)), bk := D.nx } σ2 H2)
    (hd : ∀ m' σ' H', Stp B m m' H H' → Pv ds.length m' σ' H' → D.nx σ' H') : tFor (iTup K ta) g tu D σ H := by
  have : tSeq (tFor (iTup K ta) g tu) (fun D σ H => D.nx σ H) D σ H := z_forT k h Pv h0 hs hd
  exact this
theorem es_tied {ms : List Nat} {ts : List (Nat × Nat)} {room : Nat} (h1 : EvD m K ta σ H (.web ms ts)) (h2 : EvD m K tb σ H (.d (.int (room : Int)))) (hw : WebOk ms ts) : EvS m K (tCall (spTied K) [] L2.E0 (tCons ta (tCons tb tNil))) σ H (fun r => ∃ l, r = .d (dNats l) ∧ TiedOk ts room l) := es_call (x := ((ms, ts), room)) (ea_cons h1 (ea_cons h2 ea_nil)) hw
end
section
variable {P : Program} {w : World} {K : PySem.W.Frag} {mg : Str → Option Value} {base : Heap}
/-! ### tied_all -/
def RoomsIn (n : Nat) (row : List Nat) : Prop := ∀ x ∈ row, x < n
abbrev spTiedAll (K : PySem.W.Frag) : Sp := SpP K (fun a : Wb × Nat => [.web a.1.1 a.1.2, .d (.int (a.2 : Int))]) (fun a => WebOk a.1.1 a.1.2 ∧ a.2 < a.1.1.length) (fun a r => ∃ rows : List (List Nat), r = .tl (rows.map dNats) ∧ ∀ row ∈ rows, RoomsIn a.1.1.length row ∧ row.length ≤ 3)
theorem es_tiedAll {m : Md} {σ : L2.St} {H : Hp} {ta tb : TE} {ms : List Nat} {ts : List (Nat × Nat)} {room : Nat} (h1 : EvD m K ta σ H (.web ms ts)) (h2 : EvD m K tb σ H (.d (.int (room : Int)))) (hw : WebOk ms ts) (hr : room < ms.length) : EvS m K (tCall (spTiedAll K) [] L2.E0 (tCons ta (tCons tb tNil))) σ H (fun r => ∃ rows : List (List Nat), r = .tl (rows.map dNats) ∧ ∀ row ∈ rows, RoomsIn ms.length row ∧ row.length ≤ 3) := es_call (x := ((ms, ts), room)) (ea_cons h1 (ea_cons h2 ea_nil)) ⟨hw, hr⟩
theorem sc_tied_all : FnScope ["web", "room", "found", "one", "other"] ["web", "room"] (defScope s_tied_all) := ⟨rfl, rfl, rfl, by decide +kernel, rfl, by decide +kernel, by decide +kernel⟩
theorem ok_tied_all (T : Top K mg) : Cal P w K mg base 2 "tied_all" ["web", "room"] (spTiedAll K) := by
  have G := T.G
  refine T.d_tied_all.cal sc_tied_all (fun _ _ _ _ _ _ us hl => match us, hl with | [_, _], _ => rfl) (fun _ => rfl) (fun f cdv A outer s H0 E hr => ?_)
  refine ⟨_, (pss_cons (ps_set (i := 2) sc_tied_all.nd rfl (Or.inl rfl) (pe_lst (pa_cons (pe_tup (pa_cons (pv 1) pa_nil)) pa_nil)))
    (pss_cons (ps_for PassesOwn.never rfl (pi_tup (pe_cal (ok_tied_rooms T) (hr.mono (by decide)) (by rfl) (pa_cons (pv 0) (pa_cons (pv 1) pa_nil)))) (pg_name (i := 3) sc_tied_all.nd rfl (Or.inl rfl))
    (pss_one (ps_if (pt_cmpR op_gt (pv 3) (pv 1) (nomark _)) (pss_cons (ps_expr (pe_bm PySem.F.plainAttrs_list PySem.F.slot_list_append PySem.F.type_list_append mt_append (pv 2) (pa_cons (pe_tup (pa_cons (pv 1) (pa_cons (pv 3) pa_nil))) pa_nil)))
    (pss_one (ps_for PassesOwn.never rfl (pi_tup (pe_cal (ok_tied_rooms T) (hr.mono (by decide)) (by rfl) (pa_cons (pv 0) (pa_cons (pv 3) pa_nil)))) (pg_name (i := 4) sc_tied_all.nd rfl (Or.inl rfl))
    (pss_one (ps_if (PW.pt (pw_and (pt_cmpR op_gt (pv 4) (pv 3) (nomark _)) (pw_and1 (pt_cmpR (op_inDT (hu65 hr)) (pe_tup (pa_cons (pv 1) (pa_cons (pv 4) pa_nil))) (pe_fld (pv 0) rfl) (by rfl))))) (pss_one (ps_expr (pe_bm PySem.F.plainAttrs_list PySem.F.slot_list_append PySem.F.type_list_append mt_append (pv 2) (pa_cons (pe_tup (pa_cons (pv 1) (pa_cons (pv 3) (pa_cons (pv 4) pa_nil)))) pa_nil)))) pss_nil))))) pss_nil)))
    (pss_one (ps_ret (pv 2))))), ?_⟩
  intro m ⟨⟨ms, ts⟩, room⟩ H vs Q k i0 ⟨hw, hroom⟩ q
  obtain ⟨v, v2, rfl, i1, i2⟩ := isAll2 (show IsAll m K H vs [.web ms ts, .d (.int (room : Int))] from i0)
  simp only at hw hroom
  replace q : ∀ r v H', m.R H H' → (∃ rows : List (List Nat), r = .tl (rows.map dNats) ∧ ∀ row ∈ rows, RoomsIn ms.length row ∧ row.length ≤ 3) → Is m K H' v r → Q v H' := q
  have hn5 := hw.n5
  have hfew := hw.few
  refine z_list (K := K) (xs := [dNats [room]]) (ea_cons (ev_tup (ds := [.int (room : Int)]) (ea_cons (ev_var rfl i2) ea_nil)) ea_nil) k (by simp) fun H1 p ws e1 hp1 o1 => ?_
  have hp : H p = none := e1.dom p hp1
  have hB : p ∉ m.lo := fun z => by
    obtain ⟨o, ho, _⟩ := k.lo p z
    rw [hp] at ho
    cases ho
  let mm := m.hide p
  have s1 : Stp m.lo m mm H (upd H1 p (.lst ws)) := (Stp.of_r e1).trans (Stp.hide e1.ok hp1)
  refine s_bind (K := K) (fun te => tSeq (tFor (iTup K te) _ _) _) (fun _ _ _ _ => rfl) s1.ok (es_tied (ev_var rfl (s1.is i1)) (ev_var rfl (s1.is i2)) hw) fun r vt H2 e2 hr jt => ?_
  obtain ⟨l, rfl, hl⟩ := hr
  have hlt := tiedAll_lt hw hl
  have hll := hl.2
  have s2 := s1.then_r e2
  let Gd : Nat → Hp → Prop := fun n H' => ∃ rows : List (List Nat), Own mm K H' p (rows.map dNats) ∧ rows.length ≤ n ∧ ∀ row ∈ rows, RoomsIn ms.length row ∧ row.length ≤ 3
  have add : ∀ {n : Nat} {H' H'' : Hp} {row : List Nat}, (∃ rows : List (List Nat), rows.length ≤ n ∧ (∀ row ∈ rows, RoomsIn ms.length row ∧ row.length ≤ 3) ∧ Own mm K H'' p (rows.map dNats ++ [dNats row])) → RoomsIn ms.length row → row.length ≤ 3 → Gd (n + 1) H'' := fun ⟨rows, h1, h2, h3⟩ h4 h5 => ⟨rows ++ [_], by rw [List.map_append]; exact h3, by rw [List.length_append]; simp only [List.length_singleton]; omega, fun row' h' => by
    rcases List.mem_append.mp h' with h | h
    · exact h2 _ h
    · rw [List.mem_singleton.mp h]; exact ⟨h4, h5⟩⟩
  refine z_forT (B := m.lo) (m := mm) (ds := l.map fun (n : Nat) => PyData.int (n : Int)) s2.ok (ev_cv jt) (fun i m' σ' H' => m' = mm ∧ (∃ a b, σ' = [some v, some v2, some (.ref p), a, b]) ∧ Gd (1 + i * 21) H')
    (fun H3 e3 => ⟨rfl, ⟨_, _, rfl⟩, [[room]], (o1.go e2).go e3, Nat.le_refl _, fun row hr => by rw [List.mem_singleton.mp hr]; exact ⟨fun x hx => by rw [List.mem_singleton.mp hx]; exact hroom, by simp⟩⟩) (fun H3 i dd vd m' σ' H' hd e3 s3 pv id => ?_) fun m' σ' H' s3 pv => ?_
  · obtain ⟨rfl, ⟨a, b, rfl⟩, rows, ow, hrl, hrows⟩ := pv
    rw [List.getElem?_map] at hd
    obtain ⟨one, hone, rfl⟩ := Option.map_eq_some_iff.mp hd
    have hi : i < l.length := (List.getElem?_eq_some_iff.mp hone).1
    have h1 := hlt one (List.mem_of_getElem? hone)
    have s4 : Stp m.lo m mm H H' := (s2.then_r e3).trans s3
    have vd' : vd = .int (one : Int) := dp_int (id : Dp K (mm.vw H') vd (.int (one : Int)))
    subst vd'
    refine s_when (b := decide ((room : Int) < (one : Int))) s4.ok (et_test (ev_ib (g := fun i j => decide (j < i)) (ev_var rfl id) (ev_var rfl (s4.is i2)))) (fun hb H4 e4 => ?_) fun hb H4 e4 => ⟨mm, s3.then_r e4, rfl, ⟨_, _, rfl⟩, rows, ow.go e4, by omega, hrows⟩
    have s5 := s4.then_r e4
    refine z_append (B := m.lo) (a := dNats [room, one]) e4.ok (ev_var rfl rfl) (ow.go e4) (ev_tup (ds := [.int (room : Int), .int (one : Int)]) (ea_cons (ev_var rfl (s5.is i2)) (ea_cons (ev_var rfl (.int _)) ea_nil))) (by rw [List.length_map]; omega) hB fun H5 s6 oth6 o6 => ?_
    have s56 := s5.trans s6
    refine s_bind (K := K) (fun te => tFor (iTup K te) _ _) (fun _ _ _ _ => rfl) s6.ok (es_tied (ev_var rfl (s56.is i1)) (ev_var rfl (.int (one : Int))) hw) fun r vt2 H6 e6 hr jt2 => ?_
    obtain ⟨l2, rfl, hl2⟩ := hr
    have hlt2 := tiedAll_lt hw hl2
    have hll2 := hl2.2
    have s7 := s56.then_r e6
    obtain ⟨rows2, o2, hr2, hrows2⟩ : Gd (1 + i * 21 + 1) H6 := add (H' := H6) (row := [room, one]) ⟨rows, hrl, hrows, o6.go e6⟩ (fun x hx => by
      rcases List.mem_cons.mp hx with h | h
      · rw [h]; exact hroom
      · rw [List.mem_singleton.mp h]; exact h1) (by simp)
    refine y_forT (B := m.lo) (m := mm) (ds := l2.map fun (n : Nat) => PyData.int (n : Int)) s7.ok (ev_cv jt2) (fun j m' σ' H' => m' = mm ∧ (∃ b, σ' = [some v, some v2, some (.ref p), some (.int (one : Int)), b]) ∧ Gd (1 + i * 21 + 1 + j) H')
      (fun H7 e7 => ⟨rfl, ⟨_, rfl⟩, rows2, o2.go e7, hr2, hrows2⟩) (fun H7 j dd vd m' σ' H8 hd e7 s8 pv id => ?_) fun m' σ' H8 s8 pv => ?_
    · obtain ⟨rfl, ⟨b, rfl⟩, rows3, o3, hr3, hrows3⟩ := pv
      rw [List.getElem?_map] at hd
      obtain ⟨other, hother, rfl⟩ := Option.map_eq_some_iff.mp hd
      have hj : j < l2.length := (List.getElem?_eq_some_iff.mp hother).1
      have h2 := hlt2 other (List.mem_of_getElem? hother)
      have s9 : Stp m.lo m mm H H8 := (s7.then_r e7).trans s8
      refine s_whenX s9.ok (tx_and (tx_of (et_test (ev_ib (g := fun i j => decide (j < i)) (ev_var rfl id) (ev_var rfl (.int (one : Int)))))) (tx_of (et_test (ev_inDT (d := dPair (room, other)) (ds := ts.map dPair) (ev_tup (ds := [.int (room : Int), .int (other : Int)]) (ea_cons (ev_var rfl (s9.is i2)) (ea_cons (ev_var rfl id) ea_nil))) (ev_ties (ev_var rfl (s9.is i1)) G.cW G.nT) (dNats_shaped2 _ _) (pairs_shaped _))))) (fun H9 e9 => ?_) fun H9 e9 => ⟨mm, s8.then_r e9, rfl, ⟨_, rfl⟩, rows3, o3.go e9, by omega, hrows3⟩
      have s10 := s9.then_r e9
      refine z_append (B := m.lo) (a := dNats [room, one, other]) e9.ok (ev_var rfl rfl) (o3.go e9) (ev_tup (ds := [.int (room : Int), .int (one : Int), .int (other : Int)]) (ea_cons (ev_var rfl (s10.is i2)) (ea_cons (ev_var rfl (.int _)) (ea_cons (ev_var rfl (id.mono e9)) ea_nil)))) (by rw [List.length_map]; omega) hB fun H10 s11 oth11 o11 => ⟨mm, (s8.then_r e9).trans s11, rfl, ⟨_, rfl⟩, add (H' := H10) (row := [room, one, other]) ⟨rows3, hr3, hrows3, o11⟩ (fun x hx => by
        rcases List.mem_cons.mp hx with h | h
        · rw [h]; exact hroom
        · rcases List.mem_cons.mp h with h | h
          · rw [h]; exact h1
          · rw [List.mem_singleton.mp h]; exact h2) (by simp)⟩
    · obtain ⟨rfl, ⟨b, rfl⟩, rows3, o3, hr3, hrows3⟩ := pv
      rw [List.length_map] at hr3
      exact ⟨mm, (((s3.then_r e4).trans s6).then_r e6).trans s8, rfl, ⟨_, _, rfl⟩, rows3, o3, by omega, hrows3⟩
  · obtain ⟨rfl, ⟨a, b, rfl⟩, rows, ow, hrl, hrows⟩ := pv
    have s4 : Stp m.lo m mm H H' := s2.trans s3
    refine s_ret (K := K) s4.ok (r := .v (.ref p)) (ev_var rfl rfl) fun vr H5 e5 i5 => ?_
    obtain rfl : vr = .ref p := i5
    have s5 := s4.then_r e5
    exact q _ _ H5 s5.r ⟨rows, rfl, hrows⟩ (s5.ownOut k hp (ow.go e5))
/-! ### is_too_few -/
def memPlus (ms : List Nat) : PyData → PyData
  | .int o => .int ((ms.getD o.toNat 0 : Nat) + 1 : Int)
  | _ => .none
abbrev spTooFew (K : PySem.W.Frag) : Sp := SpP K (fun a : Wb × Nat => [.web a.1.1 a.1.2, .d (.int (a.2 : Int))]) (fun a => WebOk a.1.1 a.1.2) (fun _ r => ∃ b : Bool, r = .d (.bool b))
theorem sc_is_too_few : FnScope ["web", "k", "room", "some", "one"] ["web", "k"] (defScope s_is_too_few) := ⟨rfl, rfl, rfl, by decide +kernel, rfl, by decide +kernel, by decide +kernel⟩
theorem ok_is_too_few (T : Top K mg) : Cal P w K mg base 3 "is_too_few" ["web", "k"] (spTooFew K) := by
  have G := T.G
  refine T.d_is_too_few.cal sc_is_too_few (fun _ _ _ _ _ _ us hl => match us, hl with | [_, _], _ => rfl) (fun _ => rfl) (fun f cdv A outer s H0 E hr => ?_)
  refine ⟨_, (pss_cons (ps_for PassesOwn.never rfl (pi_range1 (by rfl) G.range_ (pa_cons (pe_callB call_len_seq (by rfl) G.len_ (by decide +kernel) (pa_cons (pe_fld (pv 0) rfl) pa_nil)) pa_nil)) (pg_name (i := 2) sc_is_too_few.nd rfl (Or.inl rfl))
    (pss_one (ps_for PassesOwn.never rfl (pi_list (pe_cal (ok_tied_all T) (hr.mono (by decide)) (by rfl) (pa_cons (pv 0) (pa_cons (pv 2) pa_nil)))) (pg_name (i := 3) sc_is_too_few.nd rfl (Or.inl rfl))
    (pss_one (ps_if (pt_cmpR op_gt (pe_callB (cr_sum rfl) (by rfl) G.sum_ (by decide +kernel) (pa_cons (pe_lc (own := [("one", 4)]) (g := (gName 4)) (tt := tYes) (te := (tOp (rI0 fun i j => .int (i + j)) (tOp (rIxT K) (tFld K (tVar 0) "memories") (tVar 4)) (tC (.int 1)))) rfl sc_is_too_few.nd (pi_tup (pv 3)) (blkOk_by (own := [("one", 4)]) (by kernel_rfl)) (fun _ _ _ _ _ => (pg_name (i := 4) sc_is_too_few.nd rfl (Or.inl rfl))) (fun _ _ _ _ _ => pts_nil) (fun _ _ _ _ _ => (pe_op op_add (pe_ix ix_tup (pe_fld (pv 0) rfl) (pv 4) (fun _ _ => rfl)) pe_int))) pa_nil)) (pv 1) (nomark _)) (pss_one (ps_ret pe_bl)) pss_nil)))))
    (pss_one (ps_ret pe_bl))), ?_⟩
  intro m ⟨⟨ms, ts⟩, k'⟩ H vs Q k i0 hw q
  obtain ⟨v, v2, rfl, i1, i2⟩ := isAll2 (show IsAll m K H vs [.web ms ts, .d (.int (k' : Int))] from i0)
  simp only at hw
  replace q : ∀ r v H', m.R H H' → (∃ b : Bool, r = .d (.bool b)) → Is m K H' v r → Q v H' := q
  have hn5 := hw.n5
  refine q_forR1 (ps := []) (n := ms.length) k (ea_cons ((ev_lenT (ev_mems (ev_var rfl i1) G.cW G.nM)).is (by rw [List.length_map])) ea_nil) (by omega) (fun i σ' H' => ∃ a b c, σ' = [some v, some v2, a, b, c]) (fun H1 e1 => ⟨_, _, _, rfl⟩) (fun H1 room σ' H' hroom e1 w1 pv => ?_) fun σ' H' w1 pv => ?_
  · obtain ⟨a, b, c, rfl⟩ := pv
    have e2 : m.R H H' := R.trans e1 w1
    refine s_bind (K := K) (fun te => tFor (iList K te) _ _) (fun _ _ _ _ => rfl) w1.ok (es_tiedAll (ev_var rfl (i1.mono e2)) (ev_var rfl (.int (room : Int))) hw hroom) fun r vt H3 e3 hr jt => ?_
    obtain ⟨rows, rfl, hrows⟩ := hr
    refine s_forL (ps := []) e3.ok (ev_tl (ev_cv jt)) (fun i σ' H' => ∃ a b c, σ' = [some v, some v2, a, b, c]) (fun H4 e4 => ⟨_, _, _, rfl⟩) (fun H4 i dd vd σ' H5 hd e4 w4 pv id => ?_) fun σ' H5 w4 pv => ⟨W.trans w1 (R.trans e3 w4), pv⟩
    obtain ⟨a, b, c, rfl⟩ := pv
    rw [List.getElem?_map] at hd
    obtain ⟨row, hrow, rfl⟩ := Option.map_eq_some_iff.mp hd
    obtain ⟨hin, hl3⟩ := hrows row (List.mem_of_getElem? hrow)
    have e5 : m.R H H5 := R.trans (R.trans e2 e3) (R.trans e4 w4)
    refine s_whenX w4.ok (tx_of (et_test (ev_ib (g := fun i j => decide (j < i)) (ev_sumL (ns := row.map fun o => ((ms.getD o 0 : Nat) + 1 : Int)) (ev_tlr ((ev_lcT (ds := row.map fun (n : Nat) => PyData.int (n : Int)) (fun _ => true) (memPlus ms) (ev_var rfl id) (by rw [List.length_map]; omega) (fun _ => rfl) (fun m2 H2 d u hd I hi => et_yes rfl) (fun m2 H2 d u hd I hi hh => ?_)).is ?_))) (ev_var rfl (i2.mono e5))))) (fun H6 e6 => s_ret (K := K) e6.ok ev_bl fun vr H7 e7 i7 => q _ vr H7 (R.trans (R.trans e5 e6) e7) ⟨_, rfl⟩ i7) fun H6 e6 => ⟨W.trans w4 e6, _, _, _, rfl⟩
    · obtain ⟨o, ho, rfl⟩ := List.mem_map.mp hd
      have hol := hin o ho
      refine ev_ii (g := fun i j => i + j) (i := ((ms.getD o 0 : Nat) : Int)) (j := 1) (ev_ixT (ds := ms.map fun (n : Nat) => PyData.int (n : Int)) (ev_mems (ev_var rfl (I.is _ _ (i1.mono e5))) G.cW G.nM) (ev_var rfl hi) (atI_nat ?_)) ev_int
      rw [List.getElem?_map, List.getElem?_eq_getElem hol, List.getD_eq_getElem?_getD, List.getElem?_eq_getElem hol]
      rfl
    · rw [filter_true, List.map_map, List.map_map]
      rfl
  · obtain ⟨a, b, c, rfl⟩ := pv
    exact s_ret (K := K) w1.ok ev_bl fun vr H7 e7 i7 => q _ vr H7 (R.trans w1 e7) ⟨_, rfl⟩ i7
end
end K20
end
section
set_option linter.all false
set_option maxRecDepth 100000
set_option maxHeartbeats 2000000
set_option autoImplicit false
namespace K20
open PySem PySem.Spec PyProof.Rows L2 LamX NdefX PySem.W
section
variable {B : List Addr} {m m' : Md} {K : PySem.W.Frag} {σ : L2.St} {H H' : Hp} {tl te tb : TE} {tz tu : TS} {D : Ends} {p : Addr}
theorem own_ints {ns : List Int} (o : Own m K H p (ns.map .int)) : H p = some (.lst (ns.map V.int)) := by
  obtain ⟨_, vs, h1, h2⟩ := o
  rw [h1, dpAll_ints h2]
/-- for x in a list of ints of one's own, not changed meanwhile -/
theorem z_forO {ns : List Int} {j : Nat} (k : m.ok H) (h : EvD m K tl σ H (.v (.ref p))) (Pv : Nat → Md → L2.St → Hp → Prop) (h0 : ∀ H1, m.R H H1 → Pv 0 m σ H1) (hO : ∀ i m' σ' H', Pv i m' σ' H' → Own m' K H' p (ns.map .int))
    (hs : ∀ H1 i z m' σ' H', ns[i]? = some z → m.R H H1 → Stp B m m' H1 H' → Pv i m' σ' H' → tu { D with nx := NxS B m H1 (Pv (i + 1)), ct := NxS B m H1 (Pv (i + 1)), bk := tz D } (σ'.set j (some (.int z))) H')
    (hd : ∀ m' σ' H', Stp B m m' H H' → Pv ns.length m' σ' H' → tz D σ' H') : tSeq (tFor (iList K tl) (gName j) tu) tz D σ H := h H (R.refl k) _ fun v H1 e1 i1 => by
  obtain rfl : v = .ref p := i1
  have g1 := own_ints (hO _ _ _ _ (h0 H1 e1))
  refine ⟨p, rfl, ⟨ns.map V.int, SqL.of g1⟩, for_list (K := K) (a := p) (xs := ns.map V.int) (D := { D with nx := tz D }) (fun i σ' H' => ∃ m', Stp B m m' H1 H' ∧ Pv i m' σ' H') ⟨m, Stp.refl e1.ok, h0 H1 e1⟩ (fun i σ' H' _ q => ?_) (fun i x σ' H' hx q => ?_) (fun σ' H' q => ?_)⟩
  · obtain ⟨m', s, pv⟩ := q
    exact SqL.of (own_ints (hO _ _ _ _ pv))
  · obtain ⟨m', s, pv⟩ := q
    rw [List.getElem?_map] at hx
    obtain ⟨z, hz, rfl⟩ := Option.map_eq_some_iff.mp hx
    exact hs H1 i z m' σ' H' hz e1 s pv
  · obtain ⟨m', s, pv⟩ := q
    exact hd m' σ' H' ((Stp.of_r e1).trans s) (by rw [List.length_map] at pv; exact pv)
/-- l.remove(x), x there -/
theorem q_remI {ns : List Int} {z : Int} (k : m.ok H) (h : EvD m K te σ H (.v (.ref p))) (o : Own m K H p (ns.map .int)) (hv : EvD m K tb σ H (.d (.int z))) (hz : z ∈ ns) (hB : p ∉ B)
    (q : ∀ H1, Stp B m m H H1 → (∀ p2 ys, p2 ≠ p → Own m K H p2 ys → Own m K H1 p2 ys) → Own m K H1 p ((ns.eraseIdx (ns.idxOf z)).map .int) → tz D σ H1) : tSeq (tDrop (tBM K "list" rRemI te (tCons tb tNil))) tz D σ H := h H (R.refl k) _ fun v H1 e1 i1 => by
  obtain rfl : v = .ref p := i1
  refine ⟨.inl ⟨rfl, _, SqL.of (own_ints (o.go e1))⟩, hv H1 e1 _ fun y H2 e2 i2 => ?_⟩
  rw [show y = .int z from dp_int (i2 : Dp K (m.vw H2) y (.int z))]
  have e12 := R.trans e1 e2
  have hlt := List.idxOf_lt_length_of_mem hz
  have o2 := o.go e12
  refine ⟨p, ns, z, ns.idxOf z, rfl, rfl, own_ints o2, ?_, fun i hi hc => ?_, ?_⟩
  · rw [List.getElem?_eq_getElem hlt]
    exact congrArg some (List.getElem_idxOf hlt)
  · have hi' : i < ns.length := by omega
    rw [List.getElem?_eq_getElem hi'] at hc
    have := List.not_of_lt_findIdx (p := (· == z)) (xs := ns) (i := i) hi
    rw [Option.some.inj hc] at this
    simp at this
  · exact q _ ((Stp.of_r e12).trans (Stp.put e2.ok o2.1 hB)) (fun p2 ys ne ho => (ho.go e12).put e2.ok o2.1 ne) (own_put e2.ok o2.1 (ints_dpAll _))
end
theorem idx_ints (z : Nat) : ∀ l : List Nat, (l.map fun (n : Nat) => (n : Int)).idxOf (z : Int) = l.idxOf z
  | [] => rfl
  | a :: l => by
    rw [List.map_cons, List.idxOf_cons, List.idxOf_cons, idx_ints z l]
    by_cases h : a = z
    · subst h; simp
    · rw [show ((a : Int) == (z : Int)) = false by rw [beq_eq_false_iff_ne]; omega, show (a == z) = false by simpa using h]
theorem erase_ints : ∀ (l : List Nat) (j : Nat), (l.map fun (n : Nat) => (n : Int)).eraseIdx j = (l.eraseIdx j).map fun (n : Nat) => (n : Int)
  | [], j => by simp
  | a :: r, 0 => by simp
  | a :: r, j + 1 => by
    have ih := erase_ints r j
    simp [ih]
theorem perm_erase : ∀ (l : List Nat) (j : Nat) (z : Nat), l[j]? = some z → l.Perm (z :: l.eraseIdx j)
  | [], j, z, h => by simp at h
  | a :: r, 0, z, h => by
    simp at h
    subst h
    simp
  | a :: r, j + 1, z, h => by
    have ih := perm_erase r j z (by simpa using h)
    show (a :: r).Perm (z :: (a :: r.eraseIdx j))
    exact (ih.cons a).trans (List.Perm.swap z a _)
def Trip := Int × Int × Nat
def dTrip (t : Trip) : PyData := .tuple [.int t.1, .int t.2.1, .int (t.2.2 : Int)]
theorem trips_alike (l : List Trip) : PySem.W.AlikeAll (l.map dTrip) := by
  refine ⟨fun x hx y hy => ?_, fun x hx => ?_⟩
  · obtain ⟨a, _, rfl⟩ := List.mem_map.mp hx
    obtain ⟨b, _, rfl⟩ := List.mem_map.mp hy
    simp [dTrip, PySem.W.alike, PySem.W.alikeAll]
  · obtain ⟨a, _, rfl⟩ := List.mem_map.mp hx
    intro h
    cases h
theorem trips_depth (l : List Trip) : PyData.depthAll (l.map dTrip) ≤ 64 := depth_all fun d hd => by
  obtain ⟨a, _, rfl⟩ := List.mem_map.mp hd
  simp [dTrip, PyData.depth, PyData.depthAll]
section
variable {P : Program} {w : World} {K : PySem.W.Frag} {mg : Str → Option Value} {base : Heap}
/-! ### order_of -/
theorem es_minTrip {m : Md} {σ : L2.St} {H : Hp} {te : TE} {l : List Trip} (h : EvD m K te σ H (.rl (l.map dTrip))) (hne : l ≠ []) : EvS m K (tOp (rIxT K) (tCB (rMinT K) (tCons te tNil)) (tC (.int 2))) σ H (fun r => ∃ t ∈ l, r = .d (.int (t.2.2 : Int))) :=
  es_bind (fun te => tOp (rIxT K) te (tC (.int 2))) (fun _ _ _ _ => rfl) (es_minT h (fun z => hne (List.map_eq_nil_iff.mp z)) (trips_alike l) (trips_depth l)) fun r v H1 e hr i => by
    obtain ⟨d, rfl, hd⟩ := hr
    obtain ⟨t, ht, rfl⟩ := List.mem_map.mp hd
    exact (ev_ixT (ds := [.int t.1, .int t.2.1, .int (t.2.2 : Int)]) (ev_cv i) ev_int rfl).s ⟨t, ht, rfl⟩
abbrev spOrder (K : PySem.W.Frag) : Sp := SpP K (fun a : Wb => [.web a.1 a.2]) (fun a => WebOk a.1 a.2) (fun a r => ∃ rooms : List Nat, r = .tl ((rooms.map fun (n : Nat) => (n : Int)).map .int) ∧ rooms.Perm (List.range a.1.length))
theorem sc_order_of : FnScope ["web", "found", "left", "near", "room", "many", "one"] ["web"] (defScope s_order_of) := ⟨rfl, rfl, rfl, by decide +kernel, rfl, by decide +kernel, by decide +kernel⟩
theorem ok_order_of (T : Top K mg) : Cal P w K mg base 2 "order_of" ["web"] (spOrder K) := by
  have G := T.G
  refine T.d_order_of.cal sc_order_of (fun _ _ _ _ _ _ us hl => match us, hl with | [_], _ => rfl) (fun _ => rfl) (fun f cdv A outer s H0 E hr => ?_)
  refine ⟨_, (pss_cons (ps_set (i := 1) sc_order_of.nd rfl (Or.inr rfl) (pe_lst pa_nil))
    (pss_cons (ps_set (i := 2) sc_order_of.nd rfl (Or.inl rfl) (pe_listRg rfl (by rfl) G.list_ (prg_1 (by rfl) G.range_ (pe_callB call_len_seq (by rfl) G.len_ (by decide +kernel) (pa_cons (pe_fld (pv 0) rfl) pa_nil)))))
    (pss_cons (ps_while PassesOwn.never (pt_cmpR op_gt (pe_callB call_len_seq (by rfl) G.len_ (by decide +kernel) (pa_cons (pv 2) pa_nil)) pe_int (nomark _)) (pss_cons (ps_set (i := 3) sc_order_of.nd rfl (Or.inl rfl) (pe_lst pa_nil))
    (pss_cons (ps_for PassesOwn.never rfl (pi_list (pv 2)) (pg_name (i := 4) sc_order_of.nd rfl (Or.inl rfl))
    (pss_cons (ps_set (i := 5) sc_order_of.nd rfl (Or.inl rfl) (pe_callB call_len_seq (by rfl) G.len_ (by decide +kernel) (pa_cons (pe_lc (own := [("one", 6)]) (g := (gName 6)) (tt := (tTest (tOp (rIn K false) (tVar 6) (tVar 1)))) (te := (tVar 6)) rfl sc_order_of.nd (pi_tup (pe_cal (ok_tied_rooms T) (hr.mono (by decide)) (by rfl) (pa_cons (pv 0) (pa_cons (pv 4) pa_nil)))) (blkOk_by (own := [("one", 6)]) (by kernel_rfl)) (fun _ _ _ _ _ => (pg_name (i := 6) sc_order_of.nd rfl (Or.inl rfl))) (fun _ _ _ _ _ => (pts_one (pt_cmpR op_in_seq (pv 6) (pv 1) (by rfl)))) (fun _ _ _ _ _ => (pv 6))) pa_nil)))
    (pss_one (ps_expr (pe_bm PySem.F.plainAttrs_list PySem.F.slot_list_append PySem.F.type_list_append mt_append (pv 3) (pa_cons (pe_tup (pa_cons (pe_un un_neg (pv 5)) (pa_cons (pe_un un_neg (pe_ix ix_tup (pe_fld (pv 0) rfl) (pv 4) (fun _ _ => rfl))) (pa_cons (pv 4) pa_nil)))) pa_nil))))))
    (pss_cons (ps_set (i := 4) sc_order_of.nd rfl (Or.inl rfl) (pe_ix ix_tup (pe_callB (cr_minT rfl (hu65 hr)) (by rfl) G.min_ (by decide +kernel) (pa_cons (pv 3) pa_nil)) pe_int (fun _ _ => rfl)))
    (pss_cons (ps_expr (pe_bm PySem.F.plainAttrs_list PySem.F.slot_list_remove PySem.F.type_list_remove mt_remove (pv 2) (pa_cons (pv 4) pa_nil)))
    (pss_one (ps_expr (pe_bm PySem.F.plainAttrs_list PySem.F.slot_list_append PySem.F.type_list_append mt_append (pv 1) (pa_cons (pv 4) pa_nil)))))))))
    (pss_one (ps_ret (pv 1)))))), ?_⟩
  intro m ⟨ms, ts⟩ H vs Q k i0 hw q
  obtain ⟨v, rfl, i1⟩ := isAll1 (show IsAll m K H vs [.web ms ts] from i0)
  simp only at hw
  replace q : ∀ r v H', m.R H H' → (∃ rooms : List Nat, r = .tl ((rooms.map fun (n : Nat) => (n : Int)).map .int) ∧ rooms.Perm (List.range ms.length)) → Is m K H' v r → Q v H' := q
  have hn5 := hw.n5
  have hfew := hw.few
  have hBk : ∀ p, H p = none → p ∉ m.lo := fun p hp z => by
    obtain ⟨o, ho, _⟩ := k.lo p z
    rw [hp] at ho
    cases ho
  let iL : List Nat → List PyData := fun l => (l.map fun (n : Nat) => (n : Int)).map .int
  refine z_new (B := m.lo) (K := K) (xs := []) (en_lst (ds := []) ea_nil) k fun p1 H1 s1 hp1 oth1 o1 => ?_
  have hB1 := hBk p1 hp1
  refine z_new (B := m.lo) (K := K) (xs := iL (List.range ms.length)) ((en_rg1 ((ev_lenT (ev_mems (ev_var rfl (s1.is i1)) G.cW G.nM)).is (by rw [List.length_map])) (by omega)).is (ints_nats _)) s1.ok fun p2 H2 s2 hp2 oth2 o2 => ?_
  have hp2' := s1.dom _ hp2
  have hB2 := hBk p2 hp2'
  have s02 := s1.trans s2
  have o12 := (oth2 p1 _ o1).2
  have ne12 := (oth2 p1 _ o1).1
  refine ⟨fun n σ' H' => ∃ m' found left, (∃ a b c d, σ' = [some v, some (.ref p1), some (.ref p2), a, b, c, d]) ∧ Stp m.lo m m' H H' ∧ Own m' K H' p1 (iL found) ∧ Own m' K H' p2 (iL left) ∧ (found ++ left).Perm (List.range ms.length) ∧ left.length = n, ⟨ms.length, _, [], List.range ms.length, ⟨_, _, _, _, rfl⟩, s02, o12, o2, List.Perm.refl _, List.length_range⟩, ?_⟩
  rintro n σ' H' ⟨m', found, left, ⟨a, b, c, d, rfl⟩, s3, of, ol, hperm, hlen⟩
  have hlens : found.length + left.length = ms.length := by
    have := hperm.length_eq
    rw [List.length_append, List.length_range] at this
    exact this
  refine ((et_test (ev_ib (g := fun i j => decide (j < i)) (ev_lenL (K := K) (EvD.to_rl (ev_var rfl rfl) ol)) ev_int)).is (b := _) (c := decide (0 < left.length)) ?_) H' (R.refl s3.ok) _ fun H3 e3 => ?_
  · rw [List.length_map, List.length_map]
    exact decide_eq_decide.mpr (by omega)
  have s4 := s3.then_r e3
  by_cases hz : 0 < left.length
  · rw [decide_eq_true hz, if_pos rfl]
    let W1 : L2.St → Hp → Prop := fun σ' H' => ∃ m' found left, (∃ a b c d, σ' = [some v, some (.ref p1), some (.ref p2), a, b, c, d]) ∧ Stp m.lo m m' H H' ∧ Own m' K H' p1 (iL found) ∧ Own m' K H' p2 (iL left) ∧ (found ++ left).Perm (List.range ms.length) ∧ left.length = n - 1
    refine ⟨W1, fun σ' H' h => ⟨n - 1, by omega, h⟩, ?_⟩
    refine z_new (B := m.lo) (K := K) (xs := []) (en_lst (ds := []) ea_nil) s4.ok fun p3 H4 s5 hp3 oth3 o3 => ?_
    have s6 := s4.trans s5
    have of4 := (oth3 p1 _ (of.go e3)).2
    have ol4 := (oth3 p2 _ (ol.go e3)).2
    have ne13 := (oth3 p1 _ (of.go e3)).1
    have ne23 := (oth3 p2 _ (ol.go e3)).1
    have hB3 := hBk p3 (s4.dom _ hp3)
    have hleft : ∀ x ∈ left, x < ms.length := fun x hx => List.mem_range.mp (hperm.mem_iff.mp (List.mem_append_right _ hx))
    refine z_forO (B := m.lo) (ns := left.map fun (n : Nat) => (n : Int)) s6.ok (ev_var rfl rfl) (fun i m2 σ2 H2 => m2 = m'.hide p3 ∧ (∃ b c d, σ2 = [some v, some (.ref p1), some (.ref p2), some (.ref p3), b, c, d]) ∧ Own m2 K H2 p1 (iL found) ∧ Own m2 K H2 p2 (iL left) ∧ ∃ l : List Trip, Own m2 K H2 p3 (l.map dTrip) ∧ l.length = i ∧ ∀ t ∈ l, t.2.2 ∈ left)
      (fun H5 e5 => ⟨rfl, ⟨_, _, _, rfl⟩, of4.go e5, ol4.go e5, [], o3.go e5, rfl, fun t ht => by cases ht⟩) (fun i m2 σ2 H2 h => h.2.2.2.1) (fun H5 i z m2 σ2 H6 hzi e5 s7 pv => ?_) fun m2 σ2 H6 s7 pv => ?_
    · obtain ⟨rfl, ⟨b, c, d, rfl⟩, of5, ol5, l, o5, hl, hmem⟩ := pv
      rw [List.getElem?_map] at hzi
      obtain ⟨room, hroom, rfl⟩ := Option.map_eq_some_iff.mp hzi
      have hin := List.mem_of_getElem? hroom
      have hlt := hleft room hin
      have s8 : Stp m.lo m (m'.hide p3) H H6 := (s6.then_r e5).trans s7
      refine s_bind (K := K) (fun te => tSeq (tAsg (tCB (rLenS K) (tCons (tLc (iTup K te) _ _ _ _) tNil)) (gName 5)) _) (fun _ _ _ _ => rfl) s8.ok (es_tied (ev_var rfl (s8.is i1)) (ev_var rfl (.int (room : Int))) hw) fun r vt H7 e7 hr jt => ?_
      obtain ⟨tl, rfl, htl⟩ := hr
      have htll := htl.2
      have s9 := s8.then_r e7
      refine q_asg e7.ok (ev_lenL (ev_tlr (ev_lcT (ds := tl.map fun (n : Nat) => PyData.int (n : Int)) (fun d => match d with | .int i => decide (i ∈ found.map fun (n : Nat) => (n : Int)) | _ => false) (fun d => d) (ev_cv jt) (by rw [List.length_map]; omega) (fun _ => rfl) (fun m3 H3 d u hd I hi => ?_) (fun m3 H3 d u hd I hi hh => ev_var rfl hi)))) fun vm H8 e8 im => ?_
      · obtain ⟨o, ho, rfl⟩ := List.mem_map.mp hd
        exact et_test (ev_inL (ev_var rfl hi) (ev_var rfl (I.is _ _ (of5.go e7).rl)))
      have s10 := s9.then_r e8
      have e78 := R.trans e7 e8
      refine z_appendS (B := m.lo) (S := fun a => ∃ t : Trip, a = dTrip t ∧ t.2.2 = room) s10.ok (ev_var rfl rfl) (o5.go e78) ((ev_tup (ds := [.int _, .int (-((ms.getD room 0 : Nat) : Int)), .int (room : Int)]) (ea_cons (ev_neg (ev_var rfl im)) (ea_cons (ev_neg (ev_ixT (ds := ms.map fun (n : Nat) => PyData.int (n : Int)) (a := .int ((ms.getD room 0 : Nat) : Int)) (ev_mems (ev_var rfl (s10.is i1)) G.cW G.nM) (ev_var rfl (.int (room : Int))) (atI_nat ?_))) (ea_cons (ev_var rfl (.int (room : Int))) ea_nil)))).s ⟨_, rfl, (_, _, room), rfl, rfl⟩) (by rw [List.length_map]; have := (List.getElem?_eq_some_iff.mp hroom).1; omega) hB3 fun a H9 hS s11 oth o9 => ?_
      · rw [List.getElem?_map, List.getElem?_eq_getElem hlt, List.getD_eq_getElem?_getD, List.getElem?_eq_getElem hlt]
        rfl
      · obtain ⟨t, rfl, ht⟩ := hS
        refine ⟨m'.hide p3, (s7.then_r e78).trans s11, rfl, ⟨_, _, _, rfl⟩, oth p1 _ ne13 (of5.go e78), oth p2 _ ne23 (ol5.go e78), l ++ [t], by rw [List.map_append]; exact o9, by rw [List.length_append, hl]; rfl, fun t' ht' => ?_⟩
        rcases List.mem_append.mp ht' with h | h
        · exact hmem t' h
        · rw [List.mem_singleton.mp h, ht]
          exact hin
    · obtain ⟨rfl, ⟨b, c, d, rfl⟩, of5, ol5, l, o5, hl, hmem⟩ := pv
      have s8 : Stp m.lo m (m'.hide p3) H H6 := s6.trans s7
      rw [List.length_map] at hl
      refine q_asgS s8.ok (es_minTrip (EvD.to_rl (ev_var rfl rfl) o5) (fun z => by rw [z] at hl; simp at hl; omega)) fun r vr H7 e7 hr jr => ?_
      obtain ⟨t, ht, rfl⟩ := hr
      have hin := hmem t ht
      have vre : vr = .int (t.2.2 : Int) := dp_int (jr : Dp K ((m'.hide p3).vw H7) vr (.int (t.2.2 : Int)))
      subst vre
      have s9 := s8.then_r e7
      refine q_remI (B := m.lo) (z := (t.2.2 : Int)) s9.ok (ev_var rfl rfl) (ol5.go e7) (ev_var rfl (.int _)) (List.mem_map.mpr ⟨_, hin, rfl⟩) hB2 fun H8 s10 oth10 o10 => ?_
      have of8 := oth10 p1 _ ne12 (of5.go e7)
      refine z_append (B := m.lo) (a := .int (t.2.2 : Int)) s10.ok (ev_var rfl rfl) of8 (ev_var rfl (.int _)) (by rw [List.length_map, List.length_map]; omega) hB1 fun H9 s11 oth11 o11 => ⟨m'.hide p3, found ++ [t.2.2], left.eraseIdx (left.idxOf t.2.2), ⟨_, _, _, _, rfl⟩, (s9.trans s10).trans s11, ?_, ?_, ?_, ?_⟩
      · show Own _ K H9 p1 (((found ++ [t.2.2]).map _).map _)
        rw [List.map_append, List.map_append]
        exact o11
      · have h0 : ((left.map fun (n : Nat) => (n : Int)).eraseIdx ((left.map fun (n : Nat) => (n : Int)).idxOf (t.2.2 : Int))) = (left.eraseIdx (left.idxOf t.2.2)).map fun (n : Nat) => (n : Int) := by
          rw [idx_ints, erase_ints]
        rw [h0] at o10
        exact oth11 p2 _ (Ne.symm ne12) o10
      · have hlt := List.idxOf_lt_length_of_mem hin
        have hpe := perm_erase left (left.idxOf t.2.2) t.2.2 (by rw [List.getElem?_eq_getElem hlt]; exact congrArg some (List.getElem_idxOf hlt))
        rw [List.append_assoc]
        exact (List.Perm.append_left found hpe.symm).trans hperm
      · rw [List.length_eraseIdx, if_pos (List.idxOf_lt_length_of_mem hin)]
        omega
  · rw [decide_eq_false hz, if_neg (by decide)]
    have hl0 : left = [] := List.length_eq_zero_iff.mp (by omega)
    subst hl0
    refine s_ret (K := K) s4.ok (r := .v (.ref p1)) (ev_var rfl rfl) fun vr H5 e5 i5 => ?_
    obtain rfl : vr = .ref p1 := i5
    have s5 := s4.then_r e5
    rw [List.append_nil] at hperm
    exact q _ _ H5 s5.r ⟨found, rfl, hperm⟩ (s5.ownOut k hp1 ((of.go e3).go e5))
end
end K20
end
section
set_option linter.all false
set_option maxRecDepth 100000
set_option maxHeartbeats 2000000
set_option autoImplicit false
namespace K20
open PySem PySem.Spec PyProof.Rows L2 LamX NdefX PySem.W
def mergeV (ks ms : List (Key × V)) : List (Key × V) := ms.foldl (fun acc p => putK acc p.1 p.2) ks
def rDUpd : V → List V → Hp → VK → Prop := fun x xs H Q => ∃ (a b : Addr) (ks ms : List (Key × V)), x = .ref a ∧ xs = [.ref b] ∧ a ≠ b ∧ H a = some (.dK ks) ∧ H b = some (.dK ms) ∧ ks.length + ms.length ≤ sizeLine ∧ Q .non (upd H a (.dK (mergeV ks ms)))
theorem kv_merge : ∀ {ms : List (Key × V)} {ws : List (Key × Value)} {ks : List (Key × V)} {vs : List (Key × Value)}, KV ks vs → KV ms ws → KV (mergeV ks ms) (merged vs ws)
  | _, _, _, _, h, .nil => h
  | _ :: _, _ :: _, ks, vs, h, .cons p t => by
    obtain ⟨p1, p2⟩ := p
    show KV (mergeV (putK _ _ _) _) (merged (stored _ _ _) _)
    refine kv_merge ?_ t
    rw [p1]
    exact h.put _ p2
theorem mergeV_len : ∀ (ms ks : List (Key × V)), (mergeV ks ms).length ≤ ks.length + ms.length
  | [], ks => Nat.le_refl _
  | p :: ms, ks => by
    have h1 := mergeV_len ms (putK ks p.1 p.2)
    have h2 := length_putK ks p.1 p.2
    show (mergeV (putK ks p.1 p.2) ms).length ≤ _
    rw [List.length_cons]
    omega
theorem mt_dupdate {X : Cx} : MtM X "dict.update" rDUpd := by
  intro pins s σ H x xs v us Q I rx rxs h
  obtain ⟨a, b, ks, ms, rfl, rfl, hne, ea, eb, hz, q⟩ := h
  obtain rfl : v = Value.ref a := rx
  obtain ⟨u, rfl, ru⟩ := rxs.one
  obtain rfl : u = Value.ref b := ru
  obtain ⟨za, ya, va, ra, da⟩ := dk_of I.hok ea
  obtain ⟨zb, yb, vb, rb, db⟩ := dk_of I.hok eb
  refine call_meetsIn PySem.F.slot_dict_update da.typeIs PySem.F.entry_dict_update (PySem.F.args_dict_update_2 _ _) (meets_dict_update (mixKind X.prog X.w) a b hne yb)
    ⟨va, vb, da, db, by rw [← ra.length, ← rb.length]; exact hz, fun h' dd' _ hs => ?_⟩
  have he : ∃ q, h'.get? a = some q := let ⟨q, _, _, hq, _⟩ := dd'; ⟨q, hq⟩
  exact ⟨.non, _, d_write I (by rw [ea]; exact True.intro) hs he (dk_new (Nat.le_trans (mergeV_len ms ks) hz) ya (kv_merge ra rb) dd'), rfl, q⟩
end K20
end
section
set_option linter.all false
set_option maxRecDepth 100000
set_option maxHeartbeats 2000000
set_option autoImplicit false
namespace K20
open PySem PySem.Spec PyProof.Rows L2 LamX NdefX PySem.W
/-! ### a dict of one's own, its int keys alone -/
def OwnD (m : Md) (H : Hp) (p : Addr) (ks : List (Key × V)) : Prop := p ∈ m.lo ∧ H p = some (.dK ks)
def hasK (ks : List (Key × V)) (t : Int) : Prop := (valV ks (Sum.inl t)).isSome = true
theorem has_put {ks : List (Key × V)} {k : Key} {v : V} {t : Int} (h : hasK ks t) : hasK (putK ks k v) t := by
  unfold hasK at h ⊢
  rw [valV_put]
  split
  · rfl
  · exact h
theorem has_self {ks : List (Key × V)} {v : V} {t : Int} : hasK (putK ks (Sum.inl t) v) t := by
  unfold hasK
  rw [valV_put, if_pos rfl]
  rfl
theorem has_mergeL : ∀ (ms ks : List (Key × V)) (t : Int), hasK ks t → hasK (mergeV ks ms) t
  | [], _, _, h => h
  | p :: ms, ks, t, h => has_mergeL ms (putK ks p.1 p.2) t (has_put h)
theorem valV_cons (p : Key × V) (ms : List (Key × V)) (k : Key) : valV (p :: ms) k = if p.1 = k then some p.2 else valV ms k := by
  unfold valV
  rw [List.find?_cons]
  by_cases h : p.1 = k
  · rw [if_pos h]
    simp [h]
  · rw [if_neg h]
    simp [h]
theorem has_mergeR : ∀ (ms ks : List (Key × V)) (t : Int), hasK ms t → hasK (mergeV ks ms) t
  | [], _, _, h => by cases h
  | p :: ms, ks, t, h => by
    unfold hasK at h
    rw [valV_cons] at h
    by_cases e : p.1 = Sum.inl t
    · exact has_mergeL ms (putK ks p.1 p.2) t (by rw [e]; exact has_self)
    · rw [if_neg e] at h
      exact has_mergeR ms (putK ks p.1 p.2) t h
section
variable {B : List Addr} {m m' : Md} {K : PySem.W.Frag} {σ : L2.St} {H H' : Hp} {tl te td ty tx : TE} {D : Ends} {tz : TS} {p : Addr} {ks : List (Key × V)}
theorem OwnD.go (e : m.R H H') (o : OwnD m H p ks) : OwnD m H' p ks := ⟨o.1, by rw [R.lo e o.1]; exact o.2⟩
theorem OwnD.into (I : Into m m' K H H') (o : OwnD m H p ks) : OwnD m' H' p ks := ⟨(I.lo p o.1).1, by rw [(I.lo p o.1).2]; exact o.2⟩
/-- {x: True for x in a tuple of ints} -/
theorem x_dc {tags : List Int} {j : Nat} {vs : List Nat} {Q : VK} (k : m.ok H) (h : EvD m K tl σ H (.d (dInts tags))) (hz : tags.length ≤ 1000) (hw : ∀ x, wipe ((wipe σ vs).set j (some x)) vs = wipe σ vs) (hj : ∀ x, ((wipe σ vs).set j (some x))[j]? = some (some x)) (hBH : ∀ b ∈ B, ∃ u, H b = some u)
    (q : ∀ D H' ks, Stp B m (m.hide D) H H' → H D = none → H' D = some (.dK ks) → ks.length ≤ tags.length → (∀ t ∈ tags, hasK ks t) → (∀ p ∈ m.lo, H' p = H p) → Q (.ref D) H') : tDc (iTup K tl) (gName j) tYes (tVar j) (tC (.bl true)) vs σ H Q := h H (R.refl k) _ fun v H1 e1 i1 => by
  obtain ⟨p, xs, rfl, g1, g2⟩ := dp_tup i1
  have ex : xs = tags.map V.int := dpAll_ints g2
  refine ⟨p, rfl, ⟨xs, sqT_mono vw_same g1⟩, fun D hD => ?_⟩
  have s1 : Stp B m (m.hide D) H (upd H1 D (.dK [])) := (Stp.of_r e1).trans (Stp.hide e1.ok hD)
  have inD : D ∈ (m.hide D).lo := List.mem_cons_self ..
  have nbD : ∀ b ∈ B, b ≠ D := fun b hb z => by
    obtain ⟨u, hu⟩ := hBH b hb
    rw [z, e1.dom _ hD] at hu
    cases hu
  refine dc_tup (K := K) (a := p) (xs := xs) (fun i H' => Stp B m (m.hide D) H H' ∧ (m.hide D).W [D] (upd H1 D (.dK [])) H' ∧ ∃ ks, H' D = some (.dK ks) ∧ ks.length ≤ i ∧ ∀ n t, n < i → tags[n]? = some t → hasK ks t) ⟨s1, W.refl s1.ok, [], upd_same, Nat.le_refl _, fun n t hn => absurd hn (Nat.not_lt_zero n)⟩ (fun i H' _ pv => ?_) (fun i x H' hx pv => ?_) (fun H' pv => ?_)
  · exact sqT_mono (((hide_vw e1.ok hD).trans pv.2.1.ex).trans vw_same) g1
  · obtain ⟨s2, w2, ks, h1, h2, h3⟩ := pv
    rw [ex, List.getElem?_map] at hx
    obtain ⟨t, ht, rfl⟩ := Option.map_eq_some_iff.mp hx
    have hi : i < tags.length := (List.getElem?_eq_some_iff.mp ht).1
    refine ⟨hw _, ?_⟩
    refine t_yes ?_
    refine ⟨.int t, hj _, ks, Sum.inl t, rfl, h1, Evl.sz_lt (by omega), ?_⟩
    have w3 : (m.hide D).W [D] H' (upd H' D (.dK (putK ks (Sum.inl t) (.bl true)))) := W.put s2.ok inD (List.mem_cons_self ..)
    refine ⟨s2.trans ⟨w3.ok, w3.ex, w3.dom, fun _ h => h, fun _ h n => absurd h n, fun b hb hm => w3.keep b hm (by simp; exact nbD b hb), rfl, rfl⟩, W.trans w2 w3, _, upd_same, ?_, fun n t' hn ht' => ?_⟩
    · have := length_putK ks (Sum.inl t) (V.bl true)
      omega
    · rcases Nat.lt_succ_iff_lt_or_eq.mp hn with h | h
      · exact has_put (h3 n t' h ht')
      · rw [h, ht] at ht'
        cases ht'
        exact has_self
  · obtain ⟨s2, w2, ks, h1, h2, h3⟩ := pv
    have el : xs.length = tags.length := by rw [ex, List.length_map]
    refine q D H' ks s2 (e1.dom D hD) h1 (by omega) (fun t ht => ?_) fun b hb => ?_
    · obtain ⟨n, hn, e⟩ := List.getElem_of_mem ht
      exact h3 n t (by omega) (by rw [List.getElem?_eq_getElem hn, e])
    · obtain ⟨u, hu, _⟩ := e1.ok.lo b hb
      have na : b ≠ D := ne_of_none hu hD
      rw [w2.keep b (List.mem_cons_of_mem _ hb) (by simp [na]), upd_ne na, R.lo e1 hb]
/-- d.update({x: True for x in ..}) -/
theorem z_bars {tags : List Int} {j : Nat} {vs : List Nat} (k : m.ok H) (h : EvD m K te σ H (.v (.ref p))) (o : OwnD m H p ks) (ht : EvD m K tl σ H (.d (dInts tags))) (hz : tags.length ≤ 1000) (hz2 : ks.length ≤ 10000) (hw : ∀ x, wipe ((wipe σ vs).set j (some x)) vs = wipe σ vs) (hj : ∀ x, ((wipe σ vs).set j (some x))[j]? = some (some x)) (hBH : ∀ b ∈ B, ∃ u, H b = some u) (hB : p ∉ B)
    (q : ∀ D' H' ms, Stp B m (m.hide D') H H' → OwnD (m.hide D') H' p (mergeV ks ms) → ms.length ≤ tags.length → (∀ t ∈ tags, hasK ms t) → D.nx σ H') : tDrop (tBM K "dict" rDUpd te (tCons (tDc (iTup K tl) (gName j) tYes (tVar j) (tC (.bl true)) vs) tNil)) D σ H := h H (R.refl k) _ fun v H1 e1 i1 => by
  obtain rfl : v = .ref p := i1
  have o1 := o.go e1
  refine ⟨.inr (.inr (.inl ⟨rfl, .inl ⟨ks, o1.2⟩⟩)), x_dc (B := B) e1.ok (ht.mono e1) hz hw hj (fun b hb => ?_) fun D' H2 ms s2 hD h1 h2 h3 oth => ?_⟩
  · obtain ⟨u, hu⟩ := hBH b hb
    cases e2 : H1 b with
    | some u' => exact ⟨u', rfl⟩
    | none =>
      rw [e1.dom b e2] at hu
      cases hu
  · have ne : p ≠ D' := ne_of_none o1.2 hD
    refine ⟨p, D', ks, ms, rfl, rfl, ne, by rw [oth p o1.1]; exact o1.2, h1, Evl.sz_of (by omega), ?_⟩
    have hp2 : p ∈ (m.hide D').lo := List.mem_cons_of_mem _ o1.1
    exact q D' _ ms (((Stp.of_r e1).trans s2).trans (Stp.put s2.ok hp2 hB)) ⟨hp2, upd_same⟩ h2 h3
/-! ### what is seen of a dict of lots -/
theorem paired_val {G : Hp} {k : Int} : ∀ {kv : List (Key × V)} {kvs : List (Int × List Int)}, Paired (fun (p : Key × V) (q : Int × List Int) => p.1 = Sum.inl q.1 ∧ Dp K G p.2 (dInts q.2)) kv kvs →
    (∃ v l, valV kv (Sum.inl k) = some v ∧ kvs.lookup k = some l ∧ Dp K G v (dInts l)) ∨ (valV kv (Sum.inl k) = none ∧ kvs.lookup k = none)
  | _, _, .nil => .inr ⟨rfl, rfl⟩
  | p :: ps, q :: qs, .cons h t => by
    obtain ⟨h1, h2⟩ := h
    rw [valV_cons, List.lookup_cons, h1]
    by_cases e : q.1 = k
    · rw [if_pos (by rw [e]), show (k == q.1) = true by rw [e]; exact beq_self_eq_true _]
      exact .inl ⟨p.2, q.2, rfl, rfl, h2⟩
    · rw [if_neg (fun z => e (Sum.inl.inj z)), show (k == q.1) = false from beq_eq_false_iff_ne.mpr (Ne.symm e)]
      exact paired_val t
theorem ev_dget2 {kvs : List (Int × List Int)} {k : Int} (h1 : EvD m K td σ H (.dct kvs)) (h2 : EvD m K ty σ H (.d (.int k))) (h3 : EvD m K tx σ H (.d (dInts []))) : EvD m K (tDGet2 td ty tx) σ H (.d (dInts ((kvs.lookup k).getD []))) := fun H0 e0 Q q => h1 H0 e0 _ fun v H1 e1 i1 => by
  obtain ⟨a, kv, rfl, g1, g2⟩ := i1
  refine ⟨a, rfl, .inl ⟨kv, .inl (vw_sub g1)⟩, h2 H1 (R.trans e0 e1) _ fun y H2 e2 i2 => h3 H2 (R.trans (R.trans e0 e1) e2) _ fun z H3 e3 i3 => ?_⟩
  rw [show y = .int k from dp_int (i2 : Dp K (m.vw H2) y (.int k))]
  have e13 := R.trans e2 e3
  have g3 := vw_sub (e13.ex _ _ g1)
  refine ⟨valV kv (Sum.inl k), .inl ⟨kv, Sum.inl k, .inl g3, rfl, rfl⟩, q _ H3 (R.trans e1 e13) ?_⟩
  rcases paired_val (k := k) g2 with ⟨v, l, a1, a2, a3⟩ | ⟨a1, a2⟩
  · rw [a1, a2]
    exact Dp.mono e13.ex _ _ a3
  · rw [a1, a2]
    exact i3
/-- back to a mode that hides one of them alone -/
theorem Stp.narrow (s : Stp B m m' H H') (hp : p ∈ m'.lo) (hn : H p = none) (hm : ∀ q ∈ B, q ∈ m.lo) : Stp B m (m.hide p) H H' := by
  refine ⟨⟨by show TabsN m.T H'; rw [← s.T]; exact s.ok.tabs, fun q c l e => s.ok.hand q c l (by rw [s.hd]; exact e), fun q hq => ?_, fun q hq b c l e => ?_⟩, s.ex.trans fun b u e => vw_of (vw_sub e) (vw_tbl e) fun z => vw_at e ?_, s.dom, fun q hq => List.mem_cons_of_mem _ hq, fun q hq n => ?_, s.keep, rfl, rfl⟩
  · rcases List.mem_cons.mp hq with z | z
    · rw [z]; exact s.ok.lo p hp
    · exact s.ok.lo q (s.sub q z)
  · rcases List.mem_cons.mp hq with z | z
    · rw [z]; exact s.ok.apart p hp b c l (by rw [s.hd]; exact e)
    · exact s.ok.apart q (s.sub q z) b c l (by rw [s.hd]; exact e)
  · rcases z with ⟨c, l, z⟩ | z
    · exact .inl ⟨c, l, by rw [s.hd]; exact z⟩
    · rcases List.mem_cons.mp z with z | z
      · rw [z]; exact .inr hp
      · exact .inr (s.sub b z)
  · rcases List.mem_cons.mp hq with z | z
    · rw [z]; exact hn
    · exact absurd z n
end
end K20
end
section
set_option linter.all false
set_option maxRecDepth 100000
set_option maxHeartbeats 2000000
set_option autoImplicit false
namespace K20
open PySem PySem.Spec PyProof.Rows L2 LamX NdefX PySem.W
def LotOk (ms : List Nat) (ts : List (Nat × Nat)) (k room : Nat) (dealt : List (Int × List Int)) (lot : List Int) : Prop :=
  lot.length = ms.getD room 0 + 1 ∧ lot.Nodup ∧ (∀ t ∈ lot, 0 ≤ t ∧ t < (k : Int)) ∧ ∀ o tags, ((room, o) ∈ ts ∨ (o, room) ∈ ts) → dealt.lookup (o : Int) = some tags → ∀ t ∈ lot, t ∉ tags
section
variable {B : List Addr} {m m' : Md} {K : PySem.W.Frag} {σ : L2.St} {H H' : Hp} {tl te tb : TE} {D : Ends} {p : Addr}
theorem z_extendS {xs : List PyData} {S : List PyData → Prop} (k : m.ok H) (h : EvD m K te σ H (.v (.ref p))) (o : Own m K H p xs) (hv : EvS m K tb σ H (fun r => ∃ ys, r = .tl ys ∧ S ys)) (hz : ∀ ys, S ys → xs.length + ys.length ≤ 100000) (hB : p ∉ B)
    (q : ∀ ys H1, S ys → Stp B m m H H1 → (∀ p2 zs, p2 ≠ p → Own m K H p2 zs → Own m K H1 p2 zs) → Own m K H1 p (xs ++ ys) → D.nx σ H1) : tDrop (tBM K "list" rExtend te (tCons tb tNil)) D σ H := h H (R.refl k) _ fun v H1 e1 i1 => by
  obtain rfl : v = .ref p := i1
  obtain ⟨hp, vs, h1, h2⟩ := o.go e1
  refine ⟨.inl ⟨rfl, vs, SqL.of h1⟩, hv H1 e1 _ fun r y H2 e2 hr i2 => ?_⟩
  obtain ⟨ys, rfl, hS⟩ := hr
  obtain ⟨_, vs', h1', h2'⟩ := o.go (R.trans e1 e2)
  obtain ⟨b, ws, rfl, g1, g2⟩ := i2
  refine ⟨p, b, vs', ws, rfl, rfl, h1', vw_sub g1, by rw [dpAll_len h2', dpAll_len g2]; exact Evl.sz_of (hz ys hS), ?_⟩
  have e12 := R.trans e1 e2
  exact q ys _ hS ((Stp.of_r e12).trans (Stp.put e2.ok hp hB)) (fun p2 zs ne ho => (ho.go e12).put e2.ok hp ne) (own_put e2.ok hp (dpAll_app h2' g2))
theorem Stp.narrowO {xs : List PyData} (s : Stp B m m' H H') (o : Own m' K H' p xs) : Own (m.hide p) K H' p xs := by
  obtain ⟨hp, ws, h1, h2⟩ := o
  refine ⟨List.mem_cons_self .., ws, h1, DpAll.mono (fun b u e => vw_of (vw_sub e) (vw_tbl e) fun z => vw_at e ?_) _ _ h2⟩
  rcases z with ⟨c, l, z⟩ | z
  · exact .inl ⟨c, l, by rw [s.hd]; exact z⟩
  · rcases List.mem_cons.mp z with z | z
    · rw [z]; exact .inr hp
    · exact .inr (s.sub b z)
theorem et_notinD {ks : List (Key × V)} {i : Int} {s1 s2 : Nat} {u : V} (o : OwnD m H p ks) (h1 : σ[s1]? = some (some (.int i))) (h2 : σ[s2]? = some (some (.ref p))) : EvT m (tTest (tDNotIn (tVar s1) (tVar s2))) σ H (!(valV ks (Sum.inl i)).isSome) := fun H1 e Q q =>
  ⟨.int i, h1, .ref p, h2, p, valV ks (Sum.inl i), rfl, .inl ⟨ks, Sum.inl i, .inl (o.go e).2, rfl, rfl⟩, _, rfl, q H1 (R.refl e.ok)⟩
end
section
variable {P : Program} {w : World} {K : PySem.W.Frag} {mg : Str → Option Value} {base : Heap}
def spLots (K : PySem.W.Frag) : Sp := fun vs H Q _ => ∃ (m : Md) (ms : List Nat) (ts : List (Nat × Nat)) (k room used : Nat) (dealt : List (Int × List Int)), m.ok H ∧ IsAll m K H vs [.web ms ts, .d (.int (k : Int)), .d (.int (room : Int)), .dct dealt, .d (.int (used : Int))] ∧ WebOk ms ts ∧ room < ms.length ∧ k ≤ 10 ∧ used ≤ k ∧
  (∀ o tags, dealt.lookup o = some tags → tags.length ≤ 10 ∧ ∀ t ∈ tags, t < (used : Int)) ∧ ∀ (p : Addr) (H' : Hp) (lots : List (List Int)), Stp m.lo m (m.hide p) H H' → H p = none → Own (m.hide p) K H' p (lots.map dInts) → lots.length ≤ 6000 → (∀ lot ∈ lots, LotOk ms ts k room dealt lot) → Q (.ref p) H'
def catR (rest : List Int) : PyData → PyData
  | .tuple xs => .tuple (xs ++ rest.map .int)
  | d => d
theorem sc_lots_for : FnScope ["web", "k", "room", "dealt", "used", "many", "bars", "other", "old", "found", "fresh", "rest", "tag", "row"] ["web", "k", "room", "dealt", "used"] (defScope s_lots_for) := ⟨rfl, rfl, rfl, by decide +kernel, rfl, by decide +kernel, by decide +kernel⟩
theorem ok_lots_for (T : Top K mg) : Cal P w K mg base 2 "lots_for" ["web", "k", "room", "dealt", "used"] (spLots K) := by
  have G := T.G
  refine T.d_lots_for.calG sc_lots_for (fun _ _ _ _ _ _ us hl => match us, hl with | [_, _, _, _, _], _ => rfl) (fun vs H Q E h => ?_) (fun f cdv A outer s H0 E hr => ?_)
  · obtain ⟨m, ms, ts, k, room, used, dealt, _, i, _⟩ := h
    exact isAll_len i
  refine ⟨_, (pss_cons (ps_set (i := 5) sc_lots_for.nd rfl (Or.inl rfl) (pe_op op_add (pe_ix ix_tup (pe_fld (pv 0) rfl) (pv 2) (fun _ _ => rfl)) pe_int))
    (pss_cons (ps_set (i := 6) sc_lots_for.nd rfl (Or.inr rfl) pe_dnewK)
    (pss_cons (ps_for PassesOwn.never rfl (pi_tup (pe_cal (ok_tied_rooms T) (hr.mono (by decide)) (by rfl) (pa_cons (pv 0) (pa_cons (pv 2) pa_nil)))) (pg_name (i := 7) sc_lots_for.nd rfl (Or.inl rfl))
    (pss_one (ps_expr (pe_bm PySem.F.plainAttrs_dict PySem.F.slot_dict_update PySem.F.type_dict_update mt_dupdate (pv 6) (pa_cons (pe_dc (own := [("tag", 12)]) (g := (gName 12)) (tt := tYes) (tk := (tVar 12)) (tv := (tC (.bl true))) rfl sc_lots_for.nd (pi_tup (pe_dget2 (hu_of hr) (pv 3) (pv 7) (pe_tup pa_nil) ⟨rfl, rfl, rfl, rfl⟩)) (blkOk_by (own := [("tag", 12)]) (by kernel_rfl)) (fun _ _ _ _ _ => (pg_name (i := 12) sc_lots_for.nd rfl (Or.inl rfl))) (fun _ _ _ _ _ => pts_nil) (fun _ _ _ _ _ => (pv 12)) (fun _ _ _ _ _ => pe_bl)) pa_nil)))))
    (pss_cons (ps_setLc (i := 8) (own := [("tag", 12)]) (g := (gName 12)) (tt := (tTest (tDNotIn (tVar 12) (tVar 6)))) (te := (tVar 12)) rfl sc_lots_for.nd rfl rfl (sw_true rfl rfl rfl (by decide +kernel)) (pi_range1 (by rfl) G.range_ (pa_cons (pv 4) pa_nil)) (blkOk_by (own := [("tag", 12)]) (by kernel_rfl)) (fun _ _ _ _ _ => (pg_name (i := 12) sc_lots_for.nd rfl (Or.inl rfl))) (fun _ _ _ _ _ => (pts_one (pt_cmp (pc_dnotin (hu_of hr) (pv 12) (pv 6))))) (fun _ _ _ _ _ => (pv 12)))
    (pss_cons (ps_set (i := 9) sc_lots_for.nd rfl (Or.inl rfl) (pe_lst pa_nil))
    (pss_cons (ps_for PassesOwn.never rfl (pi_range1 (by rfl) G.range_ (pa_cons (pe_op op_add (pv 5) pe_int) pa_nil)) (pg_name (i := 10) sc_lots_for.nd rfl (Or.inl rfl))
    (pss_one (ps_if (PW.pt (pw_and (pt_cmpR op_le (pe_op op_sub (pv 5) (pv 10)) (pe_callB call_len_seq (by rfl) G.len_ (by decide +kernel) (pa_cons (pv 8) pa_nil)) (nomark _)) (pw_and1 (pt_cmpR op_le (pe_op op_add (pv 4) (pv 10)) (pv 1) (nomark _))))) (pss_cons (ps_set (i := 11) sc_lots_for.nd rfl (Or.inr rfl) (pe_tupRg rfl (by rfl) G.tuple_ (prg_2 (by rfl) G.range_ (pv 4) (pe_op op_add (pv 4) (pv 10)))))
    (pss_one (ps_expr (pe_bm PySem.F.plainAttrs_list PySem.F.slot_list_extend PySem.F.type_list_extend mt_extend (pv 9) (pa_cons (pe_lc (own := [("row", 13)]) (g := (gName 13)) (tt := tYes) (te := (tOp (rCatA K) (tVar 13) (tVar 11))) rfl sc_lots_for.nd (pi_list (pe_cal (ok_choices T) (hr.mono (by decide)) (by rfl) (pa_cons (pv 8) (pa_cons (pe_op op_sub (pv 5) (pv 10)) pa_nil)))) (blkOk_by (own := [("row", 13)]) (by kernel_rfl)) (fun _ _ _ _ _ => (pg_name (i := 13) sc_lots_for.nd rfl (Or.inl rfl))) (fun _ _ _ _ _ => pts_nil) (fun _ _ _ _ _ => (pe_op op_catA (pv 13) (pv 11)))) pa_nil))))) pss_nil)))
    (pss_one (ps_ret (pv 9))))))))), ?_⟩
  rintro H vs Q ⟨m, ms, ts, k', room, used, dealt, k, i0, hw, hroom, hk10, huk, hdealt, q⟩
  obtain ⟨v, v2, v3, v4, v5, rfl, i1, i2, i3, i4, i5⟩ := isAll5 i0
  have hn5 := hw.n5
  have hmem3 : ms.getD room 0 ≤ 3 := by
    rw [List.getD_eq_getElem?_getD, List.getElem?_eq_getElem hroom]
    exact hw.mem _ (List.getElem_mem hroom)
  have hBk : ∀ p, H p = none → p ∉ m.lo := fun p hp z => by
    obtain ⟨o, ho, _⟩ := k.lo p z
    rw [hp] at ho
    cases ho
  have hBH : ∀ {m' H'}, Stp m.lo m m' H H' → ∀ b ∈ m.lo, ∃ u, H' b = some u := fun s b hb => by
    obtain ⟨o, ho, _⟩ := k.lo b hb
    exact ⟨o, by rw [s.keep b hb hb]; exact ho⟩
  let many := ms.getD room 0 + 1
  refine q_asg (r := .d (.int (many : Int))) k (ev_ii (g := fun i j => i + j) (i := ((ms.getD room 0 : Nat) : Int)) (j := 1) (ev_ixT (ds := ms.map fun (n : Nat) => PyData.int (n : Int)) (ev_mems (ev_var rfl i1) G.cW G.nM) (ev_var rfl i3) (atI_nat ?_)) ev_int) fun vm H1 e1 im => ?_
  · rw [List.getElem?_map, List.getElem?_eq_getElem hroom, List.getD_eq_getElem?_getD, List.getElem?_eq_getElem hroom]
    rfl
  have vme : vm = .int (many : Int) := dp_int (im : Dp K (m.vw H1) vm (.int (many : Int)))
  subst vme
  intro p6 hp6
  have hp60 := e1.dom _ hp6
  have hB6 := hBk p6 hp60
  have s1 : Stp m.lo m (m.hide p6) H (upd H1 p6 (.dK [])) := (Stp.of_r e1).trans (Stp.hide e1.ok hp6)
  refine s_bind (K := K) (m := m.hide p6) (fun te => tSeq (tFor (iTup K te) _ _) _) (fun _ _ _ _ => rfl) s1.ok (es_tied (ev_var rfl (s1.is i1)) (ev_var rfl (s1.is i3)) hw) fun r vt H2 e2 hr jt => ?_
  obtain ⟨l, rfl, hl⟩ := hr
  have hll := hl.2
  have hfew := hw.few
  have s2 := s1.then_r e2
  refine z_forT (B := m.lo) (m := m.hide p6) (ds := l.map fun (n : Nat) => PyData.int (n : Int)) s2.ok (ev_cv jt) (fun i m' σ' H' => (∃ a b c d e f g, σ' = [some v, some v2, some v3, some v4, some v5, some (.int (many : Int)), some (.ref p6), a, b, c, d, e, f, g]) ∧ ∃ ks, OwnD m' H' p6 ks ∧ ks.length ≤ i * 10 ∧ ∀ j (o : Nat) tags, j < i → l[j]? = some o → dealt.lookup (o : Int) = some tags → ∀ t ∈ tags, hasK ks t)
    (fun H3 e3 => ⟨⟨_, _, _, _, _, _, _, rfl⟩, [], OwnD.go (R.trans e2 e3) ⟨List.mem_cons_self .., upd_same⟩, Nat.le_refl _, fun j o tags hj => absurd hj (Nat.not_lt_zero j)⟩) (fun H3 i dd vd m' σ' H' hd e3 s3 pv id => ?_) fun m' σ' H' s3 pv => ?_
  · obtain ⟨⟨a, b, c, d, e, f, g, rfl⟩, ks, ow, hkl, hks⟩ := pv
    rw [List.getElem?_map] at hd
    obtain ⟨o, ho, rfl⟩ := Option.map_eq_some_iff.mp hd
    have hi : i < l.length := (List.getElem?_eq_some_iff.mp ho).1
    have s4 : Stp m.lo m m' H H' := (s2.then_r e3).trans s3
    have htl : ((dealt.lookup (o : Int)).getD []).length ≤ 10 := by
      cases hlk : dealt.lookup (o : Int) with
      | none => exact Nat.zero_le _
      | some tags => exact (hdealt _ _ hlk).1
    refine z_bars (B := m.lo) (K := K) (tags := (dealt.lookup (o : Int)).getD []) s4.ok (ev_var rfl rfl) ow (ev_dget2 (ev_var rfl (s4.is i4)) (ev_var rfl id) (ev_tup (ds := []) ea_nil)) (by omega) (by omega) (fun _ => rfl) (fun _ => rfl) (hBH s4) hB6 fun D' H5 ms' s5 ow5 hml hmt => ⟨m'.hide D', s3.trans s5, ⟨_, _, _, _, _, _, _, rfl⟩, _, ow5, ?_, fun j o' tags hj ho' hlk t ht => ?_⟩
    · have := mergeV_len ms' ks
      omega
    · rcases Nat.lt_succ_iff_lt_or_eq.mp hj with h | h
      · exact has_mergeL _ _ _ (hks j o' tags h ho' hlk t ht)
      · rw [h, ho] at ho'
        have e := Option.some.inj ho'
        subst e
        refine has_mergeR _ _ _ (hmt t ?_)
        rw [hlk]
        exact ht
  · obtain ⟨⟨a, b, c, d, e, f, g, rfl⟩, ks, ow, hkl, hks⟩ := pv
    rw [List.length_map] at hkl hks
    have s4 : Stp m.lo m m' H H' := s2.trans s3
    let notIn : Nat → Bool := fun i => !(valV ks (Sum.inl (i : Int))).isSome
    let old : List Nat := (List.range used).filter notIn
    refine q_asg (r := .tl ((old.map fun (n : Nat) => (n : Int)).map .int)) s4.ok ((ev_lcR (n := used) notIn (fun (i : Nat) => .int (i : Int)) (ea_cons (ev_var rfl (s4.is i5)) ea_nil) (by omega) (fun _ => rfl) (fun m2 H2 i hi I => et_notinD (u := .non) (ow.into I) rfl rfl) (fun m2 H2 i hi I hh => ev_var rfl (.int _))).is (by rw [← ints_nats])) fun vo H5 e5 io => ?_
    have s5 := s4.then_r e5
    have holdl : old.length ≤ 10 := by
      have := List.length_filter_le notIn (List.range used)
      rw [List.length_range] at this
      exact Nat.le_trans this (by omega)
    refine z_new (B := m.lo) (K := K) (xs := []) (en_lst (ds := []) ea_nil) s5.ok fun p9 H6 s6 hp9 oth6 o6 => ?_
    have s06 := s5.trans s6
    have hp90 := s5.dom _ hp9
    have hB9 := hBk p9 hp90
    have io6 := s6.fix io rfl
    refine z_forR1 (B := m.lo) (K := K) (m := m'.hide p9) (n := many + 1) s06.ok (ea_cons ((ev_ii (ev_var rfl (.int (many : Int))) ev_int).is (by rfl)) ea_nil) (by omega) (fun i m2 σ' H' => m2 = m'.hide p9 ∧ (∃ a d e f g, σ' = [some v, some v2, some v3, some v4, some v5, some (.int (many : Int)), some (.ref p6), a, some vo, some (.ref p9), d, e, f, g]) ∧ ∃ lots : List (List Int), Own m2 K H' p9 (lots.map dInts) ∧ lots.length ≤ i * 1024 ∧ ∀ lot ∈ lots, LotOk ms ts k' room dealt lot)
      (fun H7 e7 => ⟨rfl, ⟨_, _, _, _, _, rfl⟩, [], o6.go e7, Nat.le_refl _, fun lot h => by cases h⟩) (fun H7 fresh m2 σ' H8 hf e7 s7 pv => ?_) fun m2 σ' H8 s7 pv => ?_
    · obtain ⟨rfl, ⟨a, d, e, f, g, rfl⟩, lots, o7, hll7, hlots⟩ := pv
      have s8 : Stp m.lo m (m'.hide p9) H H8 := (s06.then_r e7).trans s7
      have io8 : Is (m'.hide p9) K H8 vo (.tl ((old.map fun (n : Nat) => (n : Int)).map .int)) := s7.fix (io6.mono e7) rfl
      have hck : (many : Int) - (fresh : Int) = ((many - fresh : Nat) : Int) := by omega
      refine s_when (b := decide ((many : Int) - (fresh : Int) ≤ (old.length : Int)) && decide ((used : Int) + (fresh : Int) ≤ (k' : Int))) s8.ok (et_and ((et_test (ev_ib (g := fun i j => decide (i ≤ j)) (ev_ii (g := fun i j => i - j) (ev_var rfl (.int (many : Int))) (ev_var rfl (.int (fresh : Int)))) (ev_lenL (ev_tlr (ev_var rfl io8))))).is (by rw [List.length_map, List.length_map])) fun _ => et_test (ev_ib (g := fun i j => decide (i ≤ j)) (ev_ii (g := fun i j => i + j) (ev_var rfl (s8.is i5)) (ev_var rfl (.int (fresh : Int)))) (ev_var rfl (s8.is i2)))) (fun hb H9 e9 => ?_) fun hb H9 e9 => ⟨m'.hide p9, s7.then_r e9, rfl, ⟨_, _, _, _, _, rfl⟩, lots, o7.go e9, by omega, hlots⟩
      rw [Bool.and_eq_true, decide_eq_true_eq, decide_eq_true_eq] at hb
      obtain ⟨hb1, hb2⟩ := hb
      have s9 := s8.then_r e9
      let rest : List Int := (List.range fresh).map fun (x : Nat) => ((used + x : Nat) : Int)
      refine q_asg (r := .d (dInts rest)) s9.ok ((ev_tupRg2 (i := used) (j := used + fresh) (ev_var rfl (s9.is i5)) ((ev_ii (g := fun i j => i + j) (ev_var rfl (s9.is i5)) (ev_var rfl (.int (fresh : Int)))).is (by rfl)) (by omega) (by omega)).is (by rw [show used + fresh - used = fresh by omega])) fun vr H10 e10 ir => ?_
      have s10 := s9.then_r e10
      have io10 := (io8.mono e9).mono e10
      refine z_extendS (B := m.lo) (S := fun ys => ∃ rows : List (List Int), ys = (rows.map (· ++ rest)).map dInts ∧ rows.length ≤ 1024 ∧ ∀ row ∈ rows, row.Sublist (old.map fun (n : Nat) => (n : Int)) ∧ row.length = many - fresh) s10.ok (ev_var rfl rfl) ((o7.go e9).go e10) (es_bind (K := K) (fun te => tLc (iList K te) _ _ _ _) (fun _ _ _ _ => rfl) (es_call (x := ((old.map fun (n : Nat) => (n : Int)), many - fresh)) (ea_cons (ev_tl (ev_var rfl io10)) (ea_cons ((ev_ii (g := fun i j => i - j) (ev_var rfl (.int (many : Int))) (ev_var rfl (.int (fresh : Int)))).is (by rw [hck])) ea_nil)) (by show (old.map _).length ≤ 10; rw [List.length_map]; exact holdl)) fun r vl H11 e11 hr jl => ?_) (fun ys hS => ?_) hB9 fun ys H12 hS s12 oth12 o12 => ?_
      · obtain ⟨rows, rfl, hrl, hrows⟩ := hr
        refine EvD.s (r := .tl ((rows.map (· ++ rest)).map dInts)) ((ev_lcL (fun _ => true) (catR rest) (ev_tl (ev_cv jl)) (by rw [List.length_map]; omega) (fun _ => rfl) (fun m2 H2 d u hd I hi => et_yes rfl) (fun m2 H2 d u hd I hi hh => ?_)).is ?_) ⟨_, rfl, rows, rfl, hrl, hrows⟩
        · obtain ⟨row, hrow, rfl⟩ := List.mem_map.mp hd
          have hrw := (hrows row hrow).2
          exact ev_catT (ds := row.map .int) (es := rest.map .int) (ev_var rfl hi) (ev_var rfl (I.is _ _ (ir.mono e11))) (by rw [List.length_map, List.length_map, hrw, List.length_map, List.length_range]; omega)
        · rw [filter_true, List.map_map, List.map_map]
          congr 1
          refine List.map_congr_left fun row _ => ?_
          show PyData.tuple (row.map PyData.int ++ rest.map PyData.int) = .tuple ((row ++ rest).map PyData.int)
          rw [List.map_append]
      · obtain ⟨rows, rfl, hrl, _⟩ := hS
        rw [List.length_map, List.length_map, List.length_map]
        omega
      · obtain ⟨rows, rfl, hrl, hrows⟩ := hS
        refine ⟨m'.hide p9, ((s7.then_r e9).then_r e10).trans s12, rfl, ⟨_, _, _, _, _, rfl⟩, lots ++ rows.map (· ++ rest), by rw [List.map_append]; exact o12, by rw [List.length_append, List.length_map]; omega, fun lot hlot => ?_⟩
        rcases List.mem_append.mp hlot with h | h
        · exact hlots lot h
        · obtain ⟨row, hrow, rfl⟩ := List.mem_map.mp h
          obtain ⟨hsub, hrw⟩ := hrows row hrow
          have hrowm : ∀ t ∈ row, ∃ n : Nat, t = (n : Int) ∧ n < used ∧ notIn n = true := fun t ht => by
            obtain ⟨n, hn, rfl⟩ := List.mem_map.mp (hsub.subset ht)
            have := List.mem_filter.mp hn
            exact ⟨n, rfl, List.mem_range.mp this.1, this.2⟩
          have hrestm : ∀ t ∈ rest, ∃ n : Nat, t = (n : Int) ∧ used ≤ n ∧ n < used + fresh := fun t ht => by
            obtain ⟨x, hx, rfl⟩ := List.mem_map.mp ht
            have := List.mem_range.mp hx
            exact ⟨used + x, rfl, by omega, by omega⟩
          refine ⟨by rw [List.length_append, hrw, List.length_map, List.length_range]; omega, List.nodup_append.mpr ⟨?_, ?_, ?_⟩, fun t ht => ?_, fun o tags ho hlk t ht htg => ?_⟩
          · refine hsub.nodup ?_
            exact List.Pairwise.map _ (fun a b hab z => hab (by omega)) (List.Pairwise.filter _ List.nodup_range)
          · exact List.Pairwise.map _ (fun a b hab z => hab (by omega)) List.nodup_range
          · intro t ht t' ht' z
            obtain ⟨n, rfl, h1, _⟩ := hrowm t ht
            obtain ⟨n', rfl, h2, _⟩ := hrestm t' ht'
            omega
          · rcases List.mem_append.mp ht with h | h
            · obtain ⟨n, rfl, h1, _⟩ := hrowm t h
              omega
            · obtain ⟨n, rfl, h1, h2⟩ := hrestm t h
              omega
          · rcases List.mem_append.mp ht with h | h
            · obtain ⟨n, rfl, h1, h2⟩ := hrowm t h
              have hol : o ∈ l := (hl.1 o).mpr ho
              obtain ⟨j, hj, ej⟩ := List.getElem_of_mem hol
              have h3 := hks j o tags hj (by rw [List.getElem?_eq_getElem hj, ej]) hlk _ htg
              unfold hasK at h3
              have h2' : (!(valV ks (Sum.inl (n : Int))).isSome) = true := h2
              rw [h3] at h2'
              cases h2'
            · obtain ⟨n, rfl, h1, h2⟩ := hrestm t h
              have := (hdealt _ _ hlk).2 _ htg
              omega
    · obtain ⟨rfl, ⟨a, d, e, f, g, rfl⟩, lots, o7, hll7, hlots⟩ := pv
      have s8 := s06.trans s7
      refine s_ret (K := K) s8.ok (r := .v (.ref p9)) (ev_var rfl rfl) fun vr H9 e9 i9 => ?_
      obtain rfl : vr = .ref p9 := i9
      have s9 := s8.then_r e9
      have o9 := o7.go e9
      refine q p9 H9 lots (s9.narrow (List.mem_cons_self ..) hp90 (fun _ h => h)) hp90 (s9.narrowO o9) (by omega) hlots
end
end K20
end
section
set_option linter.all false
set_option maxRecDepth 100000
set_option maxHeartbeats 2000000
set_option autoImplicit false
namespace K20
open PySem PySem.Spec PyProof.Rows L2 LamX NdefX PySem.W
/-! ### the steps of the search -/
structure SStep where
  d : List (Int × List Int)
  u : Nat
  lots : List (List Int)
  pd : Addr
  pl : Addr
  pt : Addr
def StepAt (m : Md) (K : PySem.W.Frag) (H : Hp) (s : SStep) : Prop := SqT K (m.vw H) s.pt [.ref s.pd, .int (s.u : Int), .ref s.pl] ∧ Is m K H (.ref s.pd) (.dct s.d) ∧ Own m K H s.pl (s.lots.map dInts)
structure StepsAt (m : Md) (K : PySem.W.Frag) (H : Hp) (p : Addr) (ss : List SStep) : Prop where
  lo : p ∈ m.lo
  at_ : H p = some (.lst (ss.map fun s => V.ref s.pt))
  all : ∀ s ∈ ss, StepAt m K H s ∧ s.pl ≠ p
  nd : (ss.map (·.pl)).Nodup
section
variable {B : List Addr} {m m' : Md} {K : PySem.W.Frag} {σ : L2.St} {H H' : Hp} {p : Addr} {s : SStep} {ss : List SStep} {xs : List PyData}
theorem Stp.weak {B' : List Addr} (s : Stp B m m' H H') (h : ∀ q ∈ B', q ∈ B) : Stp B' m m' H H' := ⟨s.ok, s.ex, s.dom, s.sub, s.new, fun q hq hm => s.keep q (h q hq) hm, s.hd, s.T⟩
theorem Own.stp (s : Stp B m m' H H') (h : p ∈ B) (o : Own m K H p xs) : Own m' K H' p xs := by
  obtain ⟨hp, vs, h1, h2⟩ := o
  exact ⟨s.sub p hp, vs, by rw [s.keep p h hp]; exact h1, DpAll.mono s.ex _ _ h2⟩
theorem StepAt.stp (t : Stp B m m' H H') (h : s.pl ∈ B) (o : StepAt m K H s) : StepAt m' K H' s := ⟨sqT_mono t.ex o.1, t.fix o.2.1 rfl, o.2.2.stp t h⟩
theorem StepsAt.stp (t : Stp B m m' H H') (hp : p ∈ B) (h : ∀ s ∈ ss, s.pl ∈ B) (o : StepsAt m K H p ss) : StepsAt m' K H' p ss :=
  ⟨t.sub p o.lo, by rw [t.keep p hp o.lo]; exact o.at_, fun s hs => ⟨(o.all s hs).1.stp t (h s hs), (o.all s hs).2⟩, o.nd⟩
theorem StepsAt.go (e : m.R H H') (o : StepsAt m K H p ss) : StepsAt m K H' p ss := o.stp (B := m.lo) (Stp.of_r e) o.lo fun s hs => (o.all s hs).1.2.2.1
theorem StepsAt.lt (o : StepsAt m K H p ss) : ∀ s ∈ ss, s.pl ∈ m.lo := fun s hs => (o.all s hs).1.2.2.1
/-- the last step taken away -/
theorem StepsAt.pop (k : m.ok H) (o : StepsAt m K H p (ss ++ [s])) : StepsAt m K (upd H p (.lst (ss.map fun s => V.ref s.pt))) p ss := by
  have w : m.W [p] H (upd H p (.lst (ss.map fun s => V.ref s.pt))) := W.put k o.lo (List.mem_cons_self ..)
  refine ⟨o.lo, upd_same, fun s' hs => ?_, ?_⟩
  · obtain ⟨⟨a1, a2, a3⟩, a4⟩ := o.all s' (List.mem_append_left _ hs)
    exact ⟨⟨sqT_mono w.ex a1, a2.w w, a3.put k o.lo a4⟩, a4⟩
  · have := o.nd
    rw [List.map_append] at this
    exact (List.nodup_append.mp this).1
/-- a step put behind -/
theorem StepsAt.push (k : m.ok H) (o : StepsAt m K H p ss) (a : StepAt m K H s) (hp : s.pl ≠ p) (hn : ∀ s' ∈ ss, s'.pl ≠ s.pl) : StepsAt m K (upd H p (.lst ((ss ++ [s]).map fun s => V.ref s.pt))) p (ss ++ [s]) := by
  have w : m.W [p] H (upd H p (.lst ((ss ++ [s]).map fun s => V.ref s.pt))) := W.put k o.lo (List.mem_cons_self ..)
  refine ⟨o.lo, upd_same, fun s' hs => ?_, ?_⟩
  · have h1 : StepAt m K H s' ∧ s'.pl ≠ p := by
      rcases List.mem_append.mp hs with h | h
      · exact o.all s' h
      · rw [List.mem_singleton.mp h]; exact ⟨a, hp⟩
    obtain ⟨⟨a1, a2, a3⟩, a4⟩ := h1
    exact ⟨⟨sqT_mono w.ex a1, a2.w w, a3.put k o.lo a4⟩, a4⟩
  · rw [List.map_append]
    refine List.nodup_append.mpr ⟨o.nd, by simp, fun x hx y hy z => ?_⟩
    obtain ⟨s', hs', rfl⟩ := List.mem_map.mp hx
    rw [List.map_singleton, List.mem_singleton] at hy
    exact hn s' hs' (by rw [z, hy])
/-- the last step's list is written -/
theorem StepsAt.left {lots : List (List Int)} {vs : List V} (k : m.ok H) (o : StepsAt m K H p (ss ++ [s])) (hv : DpAll K (m.vw H) vs (lots.map dInts)) : StepsAt m K (upd H s.pl (.lst vs)) p (ss ++ [{ s with lots := lots }]) := by
  obtain ⟨⟨b1, b2, b3⟩, b4⟩ := o.all s (List.mem_append_right _ (List.mem_singleton.mpr rfl))
  have w : m.W [s.pl] H (upd H s.pl (.lst vs)) := W.put k b3.1 (List.mem_cons_self ..)
  refine ⟨o.lo, by rw [upd_ne (Ne.symm b4), o.at_, List.map_append, List.map_append]; rfl, fun s' hs => ?_, ?_⟩
  · rcases List.mem_append.mp hs with h | h
    · obtain ⟨⟨a1, a2, a3⟩, a4⟩ := o.all s' (List.mem_append_left _ h)
      have hne : s'.pl ≠ s.pl := fun z => by
        have := o.nd
        rw [List.map_append] at this
        exact (List.nodup_append.mp this).2.2 s'.pl (List.mem_map.mpr ⟨s', h, rfl⟩) s.pl (by simp) z
      exact ⟨⟨sqT_mono w.ex a1, a2.w w, a3.put k b3.1 hne⟩, a4⟩
    · rw [List.mem_singleton.mp h]
      exact ⟨⟨sqT_mono w.ex b1, b2.w w, own_put k b3.1 hv⟩, b4⟩
  · have := o.nd
    rw [List.map_append] at this ⊢
    exact this
/-! ### a dict of lots of one's own -/
def OwnC (m : Md) (K : PySem.W.Frag) (H : Hp) (p : Addr) (kvs : List (Int × List Int)) : Prop := p ∈ m.lo ∧ ∃ kv, H p = some (.dK kv) ∧ Paired (fun (p : Key × V) (q : Int × List Int) => p.1 = Sum.inl q.1 ∧ Dp K (m.vw H) p.2 (dInts q.2)) kv kvs
theorem OwnC.go {kvs : List (Int × List Int)} (e : m.R H H') (o : OwnC m K H p kvs) : OwnC m K H' p kvs := by
  obtain ⟨hp, kv, h1, h2⟩ := o
  exact ⟨hp, kv, by rw [R.lo e hp]; exact h1, Paired.mapP h2 fun a b z => ⟨z.1, Dp.mono e.ex _ _ z.2⟩⟩
theorem paired_app {α β : Type} {F : α → β → Prop} {a : α} {b : β} : ∀ {l : List α} {l' : List β}, Paired F l l' → F a b → Paired F (l ++ [a]) (l' ++ [b])
  | _, _, .nil, h => .cons h .nil
  | _, _, .cons r t, h => .cons r (paired_app t h)
theorem putK_fresh {kv : List (Key × V)} {kvs : List (Int × List Int)} {F : PyData → V → Prop} {G : (Key × V) → (Int × List Int) → Prop} (hG : ∀ a b, G a b → a.1 = Sum.inl b.1) (h : Paired G kv kvs) {k : Int} {v : V} (hk : k ∉ kvs.map (·.1)) : putK kv (Sum.inl k) v = kv ++ [(Sum.inl k, v)] := by
  unfold putK
  rw [if_neg]
  intro z
  obtain ⟨a, ha, e⟩ := List.any_eq_true.mp z
  have e := of_decide_eq_true e
  have key : ∀ {l : List (Key × V)} {l' : List (Int × List Int)}, Paired G l l' → a ∈ l → ∃ b ∈ l', G a b := by
    intro l l' q
    induction q with
    | nil => intro h; cases h
    | cons r t ih =>
      intro h
      rcases List.mem_cons.mp h with h | h
      · subst h
        exact ⟨_, List.mem_cons_self .., r⟩
      · obtain ⟨b, hb, g⟩ := ih h
        exact ⟨b, List.mem_cons_of_mem _ hb, g⟩
  obtain ⟨b, hb, g⟩ := key h ha
  have := hG a b g
  rw [e] at this
  exact hk (List.mem_map.mpr ⟨b, hb, (Sum.inl.inj this).symm⟩)
end
end K20
end
section
set_option linter.all false
set_option maxRecDepth 100000
set_option maxHeartbeats 2000000
set_option autoImplicit false
namespace K20
open PySem PySem.Spec PyProof.Rows L2 LamX NdefX PySem.W
/-! ### dyes in the making -/
structure DOk (ms : List Nat) (ts : List (Nat × Nat)) (k : Nat) (d : List (Int × List Int)) (u : Nat) : Prop where
  lot : ∀ (r : Nat) lot, d.lookup (r : Int) = some lot → lot.length = ms.getD r 0 + 1 ∧ lot.Nodup ∧ ∀ t ∈ lot, 0 ≤ t ∧ t < (k : Int) ∧ t < (u : Int)
  apart : ∀ (r o : Nat) a b, (r, o) ∈ ts → d.lookup (r : Int) = some a → d.lookup (o : Int) = some b → ∀ t ∈ a, t ∉ b
theorem dok_nil (ms : List Nat) (ts : List (Nat × Nat)) (k u : Nat) : DOk ms ts k [] u := ⟨(fun r lot h => by cases h), fun r o a b _ h => by cases h⟩
theorem lookup_none {d : List (Int × List Int)} {k : Int} (h : k ∉ d.map (·.1)) : d.lookup k = none := by
  induction d with
  | nil => rfl
  | cons p d ih =>
    rw [List.lookup_cons, show (k == p.1) = false from beq_eq_false_iff_ne.mpr fun z => h (by rw [z]; exact List.mem_cons_self ..)]
    exact ih fun z => h (List.mem_cons_of_mem _ z)
theorem lookup_mem {d : List (Int × List Int)} {k : Int} {v : List Int} (h : d.lookup k = some v) : k ∈ d.map (·.1) := by
  by_cases z : k ∈ d.map (·.1)
  · exact z
  · rw [lookup_none z] at h
    cases h
theorem lookup_snoc (d : List (Int × List Int)) (r k : Int) (lot : List Int) : (d ++ [(r, lot)]).lookup k = (d.lookup k).or (if k = r then some lot else none) := by
  rw [List.lookup_append]
  congr 1
  rw [List.lookup_cons]
  by_cases h : k = r
  · rw [if_pos h, show (k == r) = true by rw [h]; exact beq_self_eq_true _]
  · rw [if_neg h, show (k == r) = false from beq_eq_false_iff_ne.mpr h]
    rfl
theorem lookup_snoc_some {d : List (Int × List Int)} {r k : Int} {lot v : List Int} (h : (d ++ [(r, lot)]).lookup k = some v) : d.lookup k = some v ∨ (k = r ∧ v = lot) := by
  rw [lookup_snoc] at h
  cases e : d.lookup k with
  | some x =>
    rw [e] at h
    exact .inl h
  | none =>
    rw [e] at h
    by_cases z : k = r
    · rw [if_pos z] at h
      exact .inr ⟨z, (Option.some.inj h).symm⟩
    · rw [if_neg z] at h
      cases h
theorem DOk.add {ms : List Nat} {ts : List (Nat × Nat)} {k : Nat} {d : List (Int × List Int)} {u u' room : Nat} {lot : List Int} (hw : WebOk ms ts) (h : DOk ms ts k d u) (hl : LotOk ms ts k room d lot) (hu : u ≤ u') (ht : ∀ t ∈ lot, t < (u' : Int)) : DOk ms ts k (d ++ [((room : Int), lot)]) u' := by
  obtain ⟨l1, l2, l3, l4⟩ := hl
  refine ⟨fun r lot' h' => ?_, fun r o a b hro ha hb t h1 h2 => ?_⟩
  · rcases lookup_snoc_some h' with h' | ⟨h1, h2⟩
    · obtain ⟨a1, a2, a3⟩ := h.lot r lot' h'
      exact ⟨a1, a2, fun t ht => ⟨(a3 t ht).1, (a3 t ht).2.1, by have := (a3 t ht).2.2; omega⟩⟩
    · have : r = room := by omega
      subst this
      subst h2
      exact ⟨l1, l2, fun t h => ⟨(l3 t h).1, (l3 t h).2, ht t h⟩⟩
  · rcases lookup_snoc_some ha with ga | ⟨ha1, ha2⟩
    · rcases lookup_snoc_some hb with gb | ⟨hb1, hb2⟩
      · exact h.apart r o a b hro ga gb t h1 h2
      · have : o = room := by omega
        subst this
        subst hb2
        exact l4 r a (.inr hro) ga t h2 h1
    · have er : r = room := by omega
      subst er
      subst ha2
      rcases lookup_snoc_some hb with gb | ⟨hb1, hb2⟩
      · exact l4 o b (.inl hro) gb t h1 h2
      · have : o = r := by omega
        subst this
        have := (hw.tie _ hro).1
        omega
structure DyOk (ms : List Nat) (ts : List (Nat × Nat)) (k : Nat) (ds : List (List Int)) : Prop where
  len : ds.length = ms.length
  lot : ∀ r, r < ms.length → (ds.getD r []).length = ms.getD r 0 + 1 ∧ (ds.getD r []).Nodup ∧ ∀ t ∈ ds.getD r [], 0 ≤ t ∧ t < (k : Int)
  apart : ∀ p ∈ ts, ∀ t ∈ ds.getD p.1 [], t ∉ ds.getD p.2 []
/-- every room has its lot: the dyes -/
theorem DOk.done {ms : List Nat} {ts : List (Nat × Nat)} {k : Nat} {d : List (Int × List Int)} {u : Nat} (hw : WebOk ms ts) (h : DOk ms ts k d u) (hall : ∀ r : Nat, r < ms.length → ∃ l, d.lookup (r : Int) = some l) : DyOk ms ts k ((List.range ms.length).map fun (r : Nat) => (d.lookup (r : Int)).getD []) := by
  have hg : ∀ r, r < ms.length → ((List.range ms.length).map fun (r : Nat) => (d.lookup (r : Int)).getD []).getD r [] = (d.lookup (r : Int)).getD [] := fun r hr => by
    rw [List.getD_eq_getElem?_getD, List.getElem?_map, List.getElem?_range hr]
    rfl
  refine ⟨by rw [List.length_map, List.length_range], fun r hr => ?_, fun p hp t h1 h2 => ?_⟩
  · rw [hg r hr]
    obtain ⟨l, hl⟩ := hall r hr
    rw [hl]
    obtain ⟨a1, a2, a3⟩ := h.lot r l hl
    exact ⟨a1, a2, fun t ht => ⟨(a3 t ht).1, (a3 t ht).2.1⟩⟩
  · obtain ⟨t1, t2⟩ := hw.tie p hp
    rw [hg p.1 (by omega)] at h1
    rw [hg p.2 t2] at h2
    obtain ⟨a, ha⟩ := hall p.1 (by omega)
    obtain ⟨b, hb⟩ := hall p.2 t2
    rw [ha] at h1
    rw [hb] at h2
    exact h.apart p.1 p.2 a b hp ha hb t h1 h2
/-! the measure -/
def C0 : Nat := 6002
def weight (n : Nat) : Nat → List SStep → Nat
  | _, [] => 0
  | i, s :: ss => s.lots.length * C0 ^ (n - i) + 1 + weight n (i + 1) ss
theorem weight_snoc (n : Nat) (s : SStep) : ∀ (ss : List SStep) (i : Nat), weight n i (ss ++ [s]) = weight n i ss + (s.lots.length * C0 ^ (n - (i + ss.length)) + 1)
  | [], i => by
    show s.lots.length * C0 ^ (n - i) + 1 + 0 = 0 + _
    rw [Nat.zero_add, Nat.add_zero]
    rfl
  | a :: ss, i => by
    show a.lots.length * C0 ^ (n - i) + 1 + weight n (i + 1) (ss ++ [s]) = a.lots.length * C0 ^ (n - i) + 1 + weight n (i + 1) ss + _
    rw [weight_snoc n s ss (i + 1), List.length_cons, show i + 1 + ss.length = i + (ss.length + 1) by omega]
    omega
theorem weight_pop (n : Nat) (s : SStep) (ss : List SStep) : weight n 0 ss < weight n 0 (ss ++ [s]) := by
  rw [weight_snoc]
  omega
theorem weight_push {n : Nat} {s s' s2 : SStep} {ss : List SStep} (hn : ss.length < n) (h1 : s.lots.length = s'.lots.length + 1) (h2 : s2.lots.length ≤ 6000) : weight n 0 ((ss ++ [s']) ++ [s2]) < weight n 0 (ss ++ [s]) := by
  rw [weight_snoc, weight_snoc, weight_snoc, List.length_append, List.length_singleton, h1]
  have e : n - (0 + ss.length) = (n - (0 + (ss.length + 1))) + 1 := by omega
  rw [e, Nat.pow_succ]
  generalize n - (0 + (ss.length + 1)) = j
  have hp : 1 ≤ C0 ^ j := Nat.one_le_pow _ _ (by decide)
  have h3 : s2.lots.length * C0 ^ j ≤ 6000 * C0 ^ j := Nat.mul_le_mul_right _ h2
  have h4 : (s'.lots.length + 1) * (C0 ^ j * C0) = s'.lots.length * (C0 ^ j * C0) + C0 ^ j * C0 := by rw [Nat.add_mul, Nat.one_mul]
  have h5 : C0 ^ j * C0 = 6002 * C0 ^ j := by rw [Nat.mul_comm]; rfl
  rw [h4, h5]
  omega
end K20
end
section
set_option linter.all false
set_option maxRecDepth 100000
set_option maxHeartbeats 2000000
set_option autoImplicit false
namespace K20
open PySem PySem.Spec PyProof.Rows L2 LamX NdefX PySem.W
section
variable {B : List Addr} {m m' : Md} {K : PySem.W.Frag} {σ : L2.St} {H H' : Hp} {td tu tl te ty tv : TE} {D : Ends} {tz : TS} {p : Addr} {s : SStep} {ss : List SStep}
/-- a call that answers a new list of lots -/
def EvNL (m : Md) (K : PySem.W.Frag) (te : TE) (σ : L2.St) (H : Hp) (S : List (List Int) → Prop) : Prop := ∀ H1, m.R H H1 → ∀ Q : VK, (∀ (p : Addr) (H' : Hp) (lots : List (List Int)), Stp m.lo m (m.hide p) H1 H' → H1 p = none → Own (m.hide p) K H' p (lots.map dInts) → S lots → Q (.ref p) H') → te σ H1 Q
theorem ev_lots {tA : TA} {ms : List Nat} {ts : List (Nat × Nat)} {k room used : Nat} {dealt : List (Int × List Int)} (h : EvA m K tA σ H [.web ms ts, .d (.int (k : Int)), .d (.int (room : Int)), .dct dealt, .d (.int (used : Int))]) (hw : WebOk ms ts) (hr : room < ms.length) (hk : k ≤ 10) (hu : used ≤ k) (hd : ∀ o tags, dealt.lookup o = some tags → tags.length ≤ 10 ∧ ∀ t ∈ tags, t < (used : Int)) :
    EvNL m K (tCall (spLots K) [] L2.E0 tA) σ H (fun lots => lots.length ≤ 6000 ∧ ∀ lot ∈ lots, LotOk ms ts k room dealt lot) := fun H1 e Q q => h H1 e _ fun vs H2 e2 i2 =>
  ⟨m, ms, ts, k, room, used, dealt, e2.ok, by rw [List.append_nil]; exact i2, hw, hr, hk, hu, hd, fun p H' lots s hp o h1 h2 => q p H' lots ((Stp.of_r e2).trans s) (e2.dom p hp) o ⟨h1, h2⟩⟩
theorem ev_dnew : EvD m K tDNewK σ H (.dct []) := fun H1 e Q q p hp => by
  have r1 : m.R H1 (upd H1 p (.dK [])) := R.new e.ok hp
  exact q _ _ r1 ⟨p, [], rfl, vw_upd e.ok hp rfl, .nil⟩
/-- (d, u, the lots) -/
theorem x_step {d : List (Int × List Int)} {u : Nat} {S : List (List Int) → Prop} {Q : VK} (k : m.ok H) (h1 : EvD m K td σ H (.dct d)) (h2 : EvD m K tu σ H (.d (.int (u : Int)))) (h3 : EvNL m K tl σ H S)
    (q : ∀ H' s, Stp m.lo m (m.hide s.pl) H H' → H s.pl = none → StepAt (m.hide s.pl) K H' s → s.d = d → s.u = u → S s.lots → Q (.ref s.pt) H') : tTup (tCons td (tCons tu (tCons tl tNil))) σ H Q := h1 H (R.refl k) _ fun v1 H1 e1 i1 => h2 H1 e1 _ fun v2 H2 e2 i2 => by
  have e12 := R.trans e1 e2
  refine h3 H2 e12 _ fun p H3 lots s3 hp o3 hS => ⟨by show 3 ≤ sizeLine; decide, fun T hT => ?_⟩
  rw [show v2 = .int (u : Int) from dp_int (i2 : Dp K (m.vw H2) v2 (.int (u : Int)))]
  have i1' := i1
  obtain ⟨pd, kv, rfl, g1, g2⟩ := i1
  have e4 : (m.hide p).R H3 (upd H3 T (.tup [.ref pd, .int (u : Int), .ref p])) := R.new s3.ok hT
  exact q _ ⟨d, u, lots, pd, p, T⟩ (((Stp.of_r e12).trans s3).then_r e4) (e12.dom p hp) ⟨SqT.of (vw_upd s3.ok hT rfl), (s3.fix (i1'.mono e2) rfl).mono e4, o3.go e4⟩ rfl rfl hS
/-- steps = [(d, u, the lots)] -/
theorem q_steps0 {d : List (Int × List Int)} {u i : Nat} {S : List (List Int) → Prop} (k : m.ok H) (h1 : EvD m K td σ H (.dct d)) (h2 : EvD m K tu σ H (.d (.int (u : Int)))) (h3 : EvNL m K tl σ H S)
    (q : ∀ H' s p, Stp m.lo m ((m.hide s.pl).hide p) H H' → H s.pl = none → H p = none → StepsAt ((m.hide s.pl).hide p) K H' p [s] → s.d = d → s.u = u → S s.lots → tz D (σ.set i (some (.ref p))) H') : tSeq (tAsg (tLst (tCons (tTup (tCons td (tCons tu (tCons tl tNil)))) tNil)) (gName i)) tz D σ H := by
  refine x_step (Q := fun x H1 => ([x] : List V).length ≤ sizeLine ∧ ∀ p, H1 p = none → tz D (σ.set i (some (.ref p))) (upd H1 p (.lst [x]))) k h1 h2 h3 fun H1 s s1 hn st e1 e2 hS => ⟨by show 1 ≤ sizeLine; decide, fun p hp => ?_⟩
  have s2 : Stp [s.pl] (m.hide s.pl) ((m.hide s.pl).hide p) H1 (upd H1 p (.lst [.ref s.pt])) := Stp.hide s1.ok hp
  have s3 : Stp m.lo (m.hide s.pl) ((m.hide s.pl).hide p) H1 (upd H1 p (.lst [.ref s.pt])) := Stp.hide s1.ok hp
  have hne : s.pl ≠ p := fun z => by
    obtain ⟨_, _, _, ws, h5, _⟩ := st
    rw [z, hp] at h5
    cases h5
  refine q _ s p (s1.trans s3) hn (s1.dom p hp) ⟨List.mem_cons_self .., upd_same, fun s' hs' => ?_, by simp⟩ e1 e2 hS
  rw [List.mem_singleton.mp hs']
  exact ⟨st.stp s2 (List.mem_cons_self ..), hne⟩
/-- steps.append((d, u, the lots)) -/
theorem z_push {d : List (Int × List Int)} {u : Nat} {S : List (List Int) → Prop} (k : m.ok H) (h : EvD m K te σ H (.v (.ref p))) (o : StepsAt m K H p ss) (h1 : EvD m K td σ H (.dct d)) (h2 : EvD m K tu σ H (.d (.int (u : Int)))) (h3 : EvNL m K tl σ H S) (hz : ss.length ≤ 1000) (hB : p ∉ B) (hBm : ∀ q ∈ B, q ∈ m.lo)
    (q : ∀ H' s, Stp B m (m.hide s.pl) H H' → H s.pl = none → StepsAt (m.hide s.pl) K H' p (ss ++ [s]) → s.d = d → s.u = u → S s.lots → D.nx σ H') : tDrop (tBM K "list" rAppend te (tCons (tTup (tCons td (tCons tu (tCons tl tNil)))) tNil)) D σ H := h H (R.refl k) _ fun v H1 e1 i1 => by
  obtain rfl : v = .ref p := i1
  have o1 := o.go e1
  refine ⟨.inl ⟨rfl, _, SqL.of o1.at_⟩, x_step (Q := fun x H2 => rAppend (.ref p) [x] H2 fun _ H3 => D.nx σ H3) e1.ok (h1.mono e1) (h2.mono e1) (fun H2 e2 Q q2 => h3 H2 (R.trans e1 e2) Q q2) fun H2 s t hn st e2 e3 hS => ?_⟩
  have o2 := o1.stp t o1.lo o1.lt
  refine ⟨p, _, .ref s.pt, rfl, rfl, o2.at_, Evl.sz_lt (by rw [List.length_map]; omega), ?_⟩
  have hplp : s.pl ≠ p := fun z => by
    rw [z, o1.at_] at hn
    cases hn
  have o3 := o2.push t.ok st hplp fun s' hs' z => by
    obtain ⟨_, _, _, ws, h5, _⟩ := (o1.all s' hs').1
    rw [z, hn] at h5
    cases h5
  rw [List.map_append] at o3
  exact q _ s (((Stp.of_r e1).trans (t.weak hBm)).trans (Stp.put t.ok o2.lo hB)) (e1.dom _ hn) o3 e2 e3 hS
/-- a copy of a dict, hidden -/
theorem z_copy {d : List (Int × List Int)} {i : Nat} (k : m.ok H) (h : EvD m K te σ H (.dct d)) (q : ∀ p H', Stp B m (m.hide p) H H' → H p = none → (∀ p2 xs, Own m K H p2 xs → Own (m.hide p) K H' p2 xs) → OwnC (m.hide p) K H' p d → (∀ q ∈ m.lo, H' q = H q) → tz D (σ.set i (some (.ref p))) H') :
    tSeq (tAsg (tCB (fun xs H Q => ∃ (a : Addr) (kvs : List (Key × V)), xs = [.ref a] ∧ Rd H a (.dK kvs) ∧ ∀ p, H p = none → Q (.ref p) (upd H p (.dK kvs))) (tCons te tNil)) (gName i)) tz D σ H := h H (R.refl k) _ fun v H1 e1 i1 => by
  obtain ⟨a, kv, rfl, g1, g2⟩ := i1
  refine ⟨a, kv, rfl, .inl (vw_sub g1), fun p hp => ?_⟩
  refine q p _ ((Stp.of_r e1).trans (Stp.hide e1.ok hp)) (e1.dom p hp) (fun p2 xs o => (o.go e1).hide e1.ok hp) ⟨List.mem_cons_self .., kv, upd_same, Paired.mapP g2 fun a b z => ⟨z.1, Dp.mono (hide_vw e1.ok hp) _ _ z.2⟩⟩ fun b hb => ?_
  obtain ⟨u, hu, _⟩ := e1.ok.lo b hb
  rw [upd_ne (ne_of_none hu hp), R.lo e1 hb]
theorem paired_len {α β : Type} {F : α → β → Prop} : ∀ {l : List α} {l' : List β}, Paired F l l' → l.length = l'.length
  | _, _, .nil => rfl
  | _, _, .cons r t => by rw [List.length_cons, List.length_cons, paired_len t]
theorem ev_lenD {d : List (Int × List Int)} (h : EvD m K te σ H (.dct d)) : EvD m K (tCB (fun xs H Q => ∃ (a : Addr) (kvs : List (Key × V)), xs = [V.ref a] ∧ H a = some (.dK kvs) ∧ Q (.int kvs.length) H) (tCons te tNil)) σ H (.d (.int (d.length : Int))) := ev_cb (ea_cons h ea_nil) fun H1 vs e j Q q => by
  obtain ⟨v, rfl, a, kv, rfl, g1, g2⟩ := isAll1 j
  refine ⟨a, kv, rfl, vw_sub g1, ?_⟩
  rw [paired_len g2]
  exact q _ H1 (R.refl e.ok) (.int _)
/-- d[k] = a lot, k not there -/
theorem q_dput {d : List (Int × List Int)} {kk : Int} {lot : List Int} (k : m.ok H) (hd : EvD m K td σ H (.v (.ref p))) (o : OwnC m K H p d) (hy : EvD m K ty σ H (.d (.int kk))) (hv : EvD m K tv σ H (.d (dInts lot))) (hk : kk ∉ d.map (·.1)) (hz : d.length ≤ 1000) (hB : p ∉ B)
    (q : ∀ H', Stp B m m H H' → OwnC m K H' p (d ++ [(kk, lot)]) → (∀ q ∈ m.lo, q ≠ p → H' q = H q) → tz D σ H') : tSeq (sDPut td ty tv) tz D σ H := hv H (R.refl k) _ fun v H1 e1 iv => hd H1 e1 _ fun u H2 e2 iu => hy H2 (R.trans e1 e2) _ fun y H3 e3 iy => by
  obtain rfl : u = .ref p := iu
  rw [show y = .int kk from dp_int (iy : Dp K (m.vw H3) y (.int kk))]
  have e13 := R.trans (R.trans e1 e2) e3
  obtain ⟨hp, kv, h1, h2⟩ := o.go e13
  have hlen := paired_len h2
  have hput : putK kv (Sum.inl kk) v = kv ++ [(Sum.inl kk, v)] := putK_fresh (F := fun _ _ => True) (fun a b z => z.1) h2 hk
  refine ⟨p, _, rfl, .inl ⟨kv, Sum.inl kk, h1, rfl, Evl.sz_lt (by omega), rfl⟩, ?_⟩
  rw [hput]
  have w4 : m.W [p] H3 (upd H3 p (.dK (kv ++ [(Sum.inl kk, v)]))) := W.put e3.ok hp (List.mem_cons_self ..)
  have iv3 : Is m K H3 v (.d (dInts lot)) := (iv.mono e2).mono e3
  refine q _ ((Stp.of_r e13).trans (Stp.put e3.ok hp hB)) ⟨hp, _, upd_same, paired_app (Paired.mapP h2 fun a b z => ⟨z.1, Dp.mono w4.ex _ _ z.2⟩) ⟨rfl, Dp.mono w4.ex _ _ iv3⟩⟩ fun b hb ne => ?_
  rw [upd_ne ne, R.lo e13 hb]
/-- a hidden dict shown from here on -/
theorem OwnC.show {d : List (Int × List Int)} (k : m.ok H) (hn : H p = none) (o : OwnC (m.hide p) K H' p d) : Is m K H' (.ref p) (.dct d) := by
  obtain ⟨_, kv, h1, h2⟩ := o
  exact ⟨p, kv, rfl, see k hn h1 rfl, Paired.mapP h2 fun a b z => ⟨z.1, Dp.mono unhide_vw _ _ z.2⟩⟩
end
end K20
end
section
set_option linter.all false
set_option maxRecDepth 100000
set_option maxHeartbeats 2000000
set_option autoImplicit false
namespace K20
open PySem PySem.Spec PyProof.Rows L2 LamX NdefX PySem.W
section
variable {m : Md} {K : PySem.W.Frag} {σ : L2.St} {H H' : Hp} {te td ty : TE}
/-- sorted(d), its keys ints -/
abbrev rSortD : List V → Hp → VK → Prop := fun xs H Q => ∃ (a : Addr) (kvs : List (Key × V)) (ks : List Int), xs = [.ref a] ∧ Rd H a (.dK kvs) ∧ kvs.map (·.1) = ks.map Sum.inl ∧ ks.length < 64 ∧ ∀ (ys : List Int) (p : Addr), ys.Perm ks → ys.Pairwise (· ≤ ·) → H p = none → Q (.ref p) (upd H p (.lst (ys.map V.int)))
theorem paired_keys {G : Hp} : ∀ {kv : List (Key × V)} {kvs : List (Int × List Int)}, Paired (fun (p : Key × V) (q : Int × List Int) => p.1 = Sum.inl q.1 ∧ Dp K G p.2 (dInts q.2)) kv kvs → kv.map (·.1) = (kvs.map (·.1)).map Sum.inl
  | _, _, .nil => rfl
  | _, _, .cons r t => by
    rw [List.map_cons, List.map_cons, List.map_cons, paired_keys t, r.1]
theorem es_sortD {d : List (Int × List Int)} (h : EvD m K te σ H (.dct d)) (hl : d.length < 64) : EvS m K (tCB rSortD (tCons te tNil)) σ H (fun r => ∃ ys : List Int, r = .tl (ys.map .int) ∧ ys.Perm (d.map (·.1)) ∧ ys.Pairwise (· ≤ ·)) := fun H1 e Q q => h H1 e _ fun v H2 e2 i2 => by
  obtain ⟨a, kv, rfl, g1, g2⟩ := i2
  refine ⟨a, kv, d.map (·.1), rfl, .inl (vw_sub g1), paired_keys g2, by rw [List.length_map]; exact hl, fun ys p hp hs hn => ?_⟩
  have r1 : m.R H2 (upd H2 p (.lst (ys.map V.int))) := R.new e2.ok hn
  exact q _ _ _ (R.trans e2 r1) ⟨ys, rfl, hp, hs⟩ ⟨p, _, rfl, vw_upd e2.ok hn rfl, ints_dpAll ys⟩
/-- d[k], k there -/
theorem ev_dget {kvs : List (Int × List Int)} {k : Int} {l : List Int} (h1 : EvD m K td σ H (.dct kvs)) (h2 : EvD m K ty σ H (.d (.int k))) (hk : kvs.lookup k = some l) : EvD m K (tDGet td ty) σ H (.d (dInts l)) := fun H0 e0 Q q => h1 H0 e0 _ fun v H1 e1 i1 => by
  obtain ⟨a, kv, rfl, g1, g2⟩ := i1
  refine h2 H1 (R.trans e0 e1) _ fun y H2 e2 i2 => ?_
  rw [show y = .int k from dp_int (i2 : Dp K (m.vw H2) y (.int k))]
  have g3 := vw_sub (e2.ex _ _ g1)
  rcases paired_val (k := k) g2 with ⟨v, l', a1, a2, a3⟩ | ⟨a1, a2⟩
  · rw [hk] at a2
    cases a2
    exact ⟨a, v, rfl, .inl ⟨kv, Sum.inl k, .inl g3, rfl, a1.symm⟩, q _ H2 (R.trans e1 e2) (Dp.mono e2.ex _ _ a3)⟩
  · rw [hk] at a2
    cases a2
end
theorem lookup_some {d : List (Int × List Int)} {k : Int} (h : k ∈ d.map (·.1)) : ∃ l, d.lookup k = some l := by
  induction d with
  | nil => cases h
  | cons p d ih =>
    rw [List.lookup_cons]
    cases e : (k == p.1) with
    | true => exact ⟨p.2, rfl⟩
    | false =>
      rcases List.mem_cons.mp h with h | h
      · rw [h] at e
        simp at e
      · exact ih h
theorem sorted_rooms {rooms : List Nat} {n : Nat} {ys : List Int} (hp : rooms.Perm (List.range n)) (h1 : ys.Perm (rooms.map fun (n : Nat) => (n : Int))) (h2 : ys.Pairwise (· ≤ ·)) : ys = (List.range n).map fun (n : Nat) => (n : Int) := by
  refine List.Perm.eq_of_pairwise (le := (· ≤ ·)) (fun a b _ _ h h' => by omega) h2 ?_ (h1.trans (hp.map _))
  rw [List.pairwise_map]
  exact List.pairwise_lt_range.imp fun h => by omega
end K20
end
section
set_option linter.all false
set_option maxRecDepth 100000
set_option maxHeartbeats 2000000
set_option autoImplicit false
namespace K20
open PySem PySem.Spec PyProof.Rows L2 LamX NdefX PySem.W
/-! ### raw_dyeing -/
def SOne (ms : List Nat) (ts : List (Nat × Nat)) (k : Nat) (rooms : List Nat) (i : Nat) (s : SStep) : Prop := i < ms.length ∧ s.d.map (·.1) = (rooms.take i).map (fun (n : Nat) => (n : Int)) ∧ DOk ms ts k s.d s.u ∧ s.u ≤ k ∧ s.lots.length ≤ 6000 ∧ ∀ lot ∈ s.lots, LotOk ms ts k (rooms.getD i 0) s.d lot
def SInv (ms : List Nat) (ts : List (Nat × Nat)) (k : Nat) (rooms : List Nat) (ss : List SStep) : Prop := ∀ i s, ss[i]? = some s → SOne ms ts k rooms i s
section
variable {P : Program} {w : World} {K : PySem.W.Frag} {mg : Str → Option Value} {base : Heap}
abbrev spRaw (K : PySem.W.Frag) : Sp := SpP K (fun a : Wb × Nat => [.web a.1.1 a.1.2, .d (.int (a.2 : Int))]) (fun a => WebOk a.1.1 a.1.2 ∧ a.2 ≤ 10) (fun a r => ∃ dy : Option (List (List Int)), r = .d (dDyes dy) ∧ ∀ ds, dy = some ds → DyOk a.1.1 a.1.2 a.2 ds)
def dGetD (d : List (Int × List Int)) : PyData → PyData
  | .int t => dInts ((d.lookup t).getD [])
  | x => x
def plusD : PyData → PyData
  | .int t => .int (t + 1)
  | d => d
theorem sc_raw_dyeing : FnScope ["web", "k", "rooms", "steps", "dealt", "used", "left", "lot", "later", "more", "room", "tag"] ["web", "k"] (defScope s_raw_dyeing) := ⟨rfl, rfl, rfl, by decide +kernel, rfl, by decide +kernel, by decide +kernel⟩
theorem ok_raw_dyeing (T : Top K mg) : Cal P w K mg base 4 "raw_dyeing" ["web", "k"] (spRaw K) := by
  have G := T.G
  refine T.d_raw_dyeing.cal sc_raw_dyeing (fun _ _ _ _ _ _ us hl => match us, hl with | [_, _], _ => rfl) (fun _ => rfl) (fun f cdv A outer s H0 E hr => ?_)
  refine ⟨_, (pss_cons (ps_if (pt_val (pe_cal (ok_is_too_few T) (hr.mono (by decide)) (by rfl) (pa_cons (pv 0) (pa_cons (pv 1) pa_nil)))) (pss_one (ps_ret pe_non)) pss_nil)
    (pss_cons (ps_set (i := 2) sc_raw_dyeing.nd rfl (Or.inl rfl) (pe_cal (ok_order_of T) (hr.mono (by decide)) (by rfl) (pa_cons (pv 0) pa_nil)))
    (pss_cons (ps_set (i := 3) sc_raw_dyeing.nd rfl (Or.inl rfl) (pe_lst (pa_cons (pe_tup (pa_cons pe_dnewK (pa_cons pe_int (pa_cons (pe_cal (ok_lots_for T) (hr.mono (by decide)) (by rfl) (pa_cons (pv 0) (pa_cons (pv 1) (pa_cons (pe_ix ix_list (pv 2) pe_int (fun _ _ => rfl)) (pa_cons pe_dnewK (pa_cons pe_int pa_nil)))))) pa_nil)))) pa_nil)))
    (pss_cons (ps_while PassesOwn.never (pt_cmpR op_gt (pe_callB call_len_seq (by rfl) G.len_ (by decide +kernel) (pa_cons (pv 3) pa_nil)) pe_int (nomark _)) (pss_cons (ps_asg (pe_ix ix_list (pv 3) (pe_un un_neg pe_int) (fun _ _ => rfl)) (pg_tup rfl (pgs_cons (pg_name (i := 4) sc_raw_dyeing.nd rfl (Or.inl rfl)) (pgs_cons (pg_name (i := 5) sc_raw_dyeing.nd rfl (Or.inl rfl)) (pgs_cons (pg_name (i := 6) sc_raw_dyeing.nd rfl (Or.inl rfl)) pgs_nil)))))
    (pss_one (ps_if (pt_cmpR op_eq (pe_callB call_len_seq (by rfl) G.len_ (by decide +kernel) (pa_cons (pv 6) pa_nil)) pe_int (nomark _)) (pss_one (ps_expr (pe_bm0 PySem.F.plainAttrs_list PySem.F.slot_list_pop PySem.F.type_list_pop mt_pop (pv 3)))) (pss_cons (ps_set (i := 7) sc_raw_dyeing.nd rfl (Or.inl rfl) (pe_bm PySem.F.plainAttrs_list PySem.F.slot_list_pop PySem.F.type_list_pop mt_popAt (pv 6) (pa_cons pe_int pa_nil)))
    (pss_cons (ps_set (i := 8) sc_raw_dyeing.nd rfl (Or.inr rfl) (pe_callTy call_dictD (by rfl) G.dict_ (by decide +kernel) (pa_cons (pv 4) pa_nil)))
    (pss_cons (ps_dput (hu_of hr) (pv 8) (pe_ix ix_list (pv 2) (pe_op op_sub (pe_callB call_len_seq (by rfl) G.len_ (by decide +kernel) (pa_cons (pv 3) pa_nil)) pe_int) (fun _ _ => rfl)) (pv 7) rfl)
    (pss_cons (ps_if (pt_cmpR op_eq (pe_callB call_lenD (by rfl) G.len_ (by decide +kernel) (pa_cons (pv 8) pa_nil)) (pe_callB call_len_seq (by rfl) G.len_ (by decide +kernel) (pa_cons (pv 2) pa_nil)) (nomark _)) (pss_one (ps_ret (pe_callTy call_tuple_of (by rfl) G.tuple_ (by decide +kernel) (pa_cons (pe_lc (own := [("room", 10)]) (g := (gName 10)) (tt := tYes) (te := (tDGet (tVar 8) (tVar 10))) rfl sc_raw_dyeing.nd (pi_list (pe_callB (call_sortedDI rfl) (by rfl) G.sorted_ (by decide +kernel) (pa_cons (pv 8) pa_nil))) (blkOk_by (own := [("room", 10)]) (by kernel_rfl)) (fun _ _ _ _ _ => (pg_name (i := 10) sc_raw_dyeing.nd rfl (Or.inl rfl))) (fun _ _ _ _ _ => pts_nil) (fun _ _ _ _ _ => (pe_dget (hu_of hr) (pv 8) (pv 10) (fun _ _ => rfl)))) pa_nil)))) pss_nil)
    (pss_cons (ps_set (i := 9) sc_raw_dyeing.nd rfl (Or.inl rfl) (pe_callB (cr_max rfl) (by rfl) G.max_ (by decide +kernel) (pa_cons (pe_op op_cat (pe_lst (pa_cons (pv 5) pa_nil)) (pe_lc (own := [("tag", 11)]) (g := (gName 11)) (tt := tYes) (te := (tOp (rI0 fun i j => .int (i + j)) (tVar 11) (tC (.int 1)))) rfl sc_raw_dyeing.nd (pi_tup (pv 7)) (blkOk_by (own := [("tag", 11)]) (by kernel_rfl)) (fun _ _ _ _ _ => (pg_name (i := 11) sc_raw_dyeing.nd rfl (Or.inl rfl))) (fun _ _ _ _ _ => pts_nil) (fun _ _ _ _ _ => (pe_op op_add (pv 11) pe_int)))) pa_nil)))
    (pss_one (ps_expr (pe_bm PySem.F.plainAttrs_list PySem.F.slot_list_append PySem.F.type_list_append mt_append (pv 3) (pa_cons (pe_tup (pa_cons (pv 8) (pa_cons (pv 9) (pa_cons (pe_cal (ok_lots_for T) (hr.mono (by decide)) (by rfl) (pa_cons (pv 0) (pa_cons (pv 1) (pa_cons (pe_ix ix_list (pv 2) (pe_callB call_len_seq (by rfl) G.len_ (by decide +kernel) (pa_cons (pv 3) pa_nil)) (fun _ _ => rfl)) (pa_cons (pv 8) (pa_cons (pv 9) pa_nil)))))) pa_nil)))) pa_nil)))))))))))))
    (pss_one (ps_ret pe_non)))))), ?_⟩
  intro m ⟨⟨ms, ts⟩, k'⟩ H vs Q k i0 ⟨hw, hk10⟩ q
  obtain ⟨v, v2, rfl, i1, i2⟩ := isAll2 (show IsAll m K H vs [.web ms ts, .d (.int (k' : Int))] from i0)
  simp only at hw hk10
  replace q : ∀ r v H', m.R H H' → (∃ dy : Option (List (List Int)), r = .d (dDyes dy) ∧ ∀ ds, dy = some ds → DyOk ms ts k' ds) → Is m K H' v r → Q v H' := q
  have hn1 := hw.n1
  have hn5 := hw.n5
  have hBk : ∀ p, H p = none → p ∉ m.lo := fun p hp z => by
    obtain ⟨o, ho, _⟩ := k.lo p z
    rw [hp] at ho
    cases ho
  refine s_bind (K := K) (fun te => tSeq (tIfS (tB te) _ _) _) (fun _ _ _ _ => rfl) k (es_call (x := ((ms, ts), k')) (ea_cons (ev_var rfl i1) (ea_cons (ev_var rfl i2) ea_nil)) hw) fun r vb H1 e1 hr jb => ?_
  obtain ⟨bb, rfl⟩ := hr
  refine q_when (b := bb) e1.ok (et_B (ev_cv jb)) (fun hb H2 e2 => s_ret (K := K) e2.ok ev_non fun vr H3 e3 i3 => q _ vr H3 (R.trans (R.trans e1 e2) e3) ⟨none, rfl, fun ds h => by cases h⟩ i3) fun hb H2 e2 => ?_
  have e02 := R.trans e1 e2
  refine q_asgS e02.ok (es_call (x := (ms, ts)) (ea_cons (ev_var rfl (i1.mono e02)) ea_nil) hw) fun r vr H3 e3 hr jr => ?_
  obtain ⟨rooms, rfl, hperm⟩ := hr
  have e03 := R.trans e02 e3
  have hrl : rooms.length = ms.length := by rw [hperm.length_eq, List.length_range]
  have hrlt : ∀ x ∈ rooms, x < ms.length := fun x hx => List.mem_range.mp (hperm.mem_iff.mp hx)
  have hrnd : rooms.Nodup := hperm.nodup_iff.mpr List.nodup_range
  have room_at : ∀ i, i < ms.length → ((rooms.map fun (n : Nat) => (n : Int)).map PyData.int)[i]? = some (.int ((rooms.getD i 0 : Nat) : Int)) := fun i hi => by
    rw [List.getElem?_map, List.getElem?_map, List.getElem?_eq_getElem (by omega), List.getD_eq_getElem?_getD, List.getElem?_eq_getElem (by omega)]
    rfl
  have room_lt : ∀ i, i < ms.length → rooms.getD i 0 < ms.length := fun i hi => by
    rw [List.getD_eq_getElem?_getD, List.getElem?_eq_getElem (by omega)]
    exact hrlt _ (List.getElem_mem ..)
  refine q_steps0 (K := K) e03.ok ev_dnew (ev_int (i := ((0 : Nat) : Int))) (ev_lots (k := k') (room := rooms.getD 0 0) (dealt := []) (used := 0) (ea_cons (ev_var rfl (i1.mono e03)) (ea_cons (ev_var rfl (i2.mono e03)) (ea_cons (ev_ixL (ev_tlr (ev_var rfl jr)) ev_int (atI_nat (room_at 0 (by omega)))) (ea_cons ev_dnew (ea_cons ev_int ea_nil))))) hw (room_lt 0 (by omega)) hk10 (Nat.zero_le _) (fun o tags h => by cases h)) fun H4 s0 p t4 hpl hp st hd0 hu0 hS => ?_
  have hB := hBk p (e03.dom p hp)
  have jrI : ∀ {m' H'}, Stp m.lo m m' H H' → Stp m.lo m m' H3 H' → Is m' K H' vr (.tl ((rooms.map fun (n : Nat) => (n : Int)).map .int)) := fun _ t => t.fix jr rfl
  have s04 : Stp m.lo m ((m.hide s0.pl).hide p) H H4 := (Stp.of_r e03).trans t4
  have inv0 : SInv ms ts k' rooms [s0] := fun i s hs => by
    have hi : i = 0 := by
      have := (List.getElem?_eq_some_iff.mp hs).1
      simp at this
      exact this
    subst hi
    simp at hs
    subst hs
    refine ⟨by omega, by rw [hd0]; rfl, by rw [hd0]; exact dok_nil _ _ _ _, by omega, hS.1, fun lot hl => ?_⟩
    rw [hd0]
    exact hS.2 lot hl
  have hpl0 := hBk _ (e03.dom _ hpl)
  let St : List SStep → L2.St → Hp → Prop := fun ss σ' H' => ∃ m', (∃ a b c d e f g h, σ' = [some v, some v2, some vr, some (.ref p), a, b, c, d, e, f, g, h]) ∧ Stp m.lo m m' H H' ∧ Stp m.lo m m' H3 H' ∧ StepsAt m' K H' p ss ∧ (∀ s ∈ ss, s.pl ∉ m.lo) ∧ SInv ms ts k' rooms ss
  refine ⟨fun n σ' H' => ∃ ss, St ss σ' H' ∧ weight ms.length 0 ss = n, ⟨_, [s0], ⟨_, ⟨_, _, _, _, _, _, _, _, rfl⟩, s04, t4, st, fun s hs => by rw [List.mem_singleton.mp hs]; exact hpl0, inv0⟩, rfl⟩, ?_⟩
  rintro n σ' H' ⟨ss, ⟨m', ⟨a, b, c, d, e, f, g, h, rfl⟩, s5, t5, sts, hnl, hinv⟩, rfl⟩
  have hlenS : EvD m' K (tCB (rLenS K) (tCons (tVar 3) tNil)) [some v, some v2, some vr, some (.ref p), a, b, c, d, e, f, g, h] H' (.d (.int (ss.length : Int))) := fun H6 e6 Q q => by
    have := (sts.go e6).at_
    refine ⟨.ref p, rfl, ?_⟩
    refine ⟨p, _, rfl, .inl (SqL.of this), ?_⟩
    rw [List.length_map]
    exact q _ H6 (R.refl e6.ok) (.int _)
  refine ((et_test (ev_ib (g := fun i j => decide (j < i)) hlenS ev_int)).is (c := decide (0 < ss.length)) (decide_eq_decide.mpr (by omega))) H' (R.refl s5.ok) _ fun H6 e6 => ?_
  have s6 := s5.then_r e6
  have t6 := t5.then_r e6
  have sts6 := sts.go e6
  by_cases hz : 0 < ss.length
  · rw [decide_eq_true hz, if_pos rfl]
    obtain ⟨ss0, sl, rfl⟩ : ∃ ss0 sl, ss = ss0 ++ [sl] := ⟨_, _, (List.dropLast_concat_getLast (List.length_pos_iff.mp hz)).symm⟩
    refine ⟨fun σ' H' => ∃ ss', St ss' σ' H' ∧ weight ms.length 0 ss' < weight ms.length 0 (ss0 ++ [sl]), fun σ' H' ⟨ss', h1, h2⟩ => ⟨_, h2, ss', h1, rfl⟩, ?_⟩
    have hone := hinv ss0.length sl (by simp)
    obtain ⟨hi, hkeys, hdok, huk, hll, hlots⟩ := hone
    obtain ⟨⟨a1, a2, a3⟩, a4⟩ := sts6.all sl (List.mem_append_right _ (List.mem_singleton.mpr rfl))
    -- dealt, used, left = steps[-1]
    have hat : atI ((ss0 ++ [sl]).map fun s => V.ref s.pt) (-1) = some (.ref sl.pt) := by
      unfold atI ixN
      rw [List.length_map, List.length_append, List.length_singleton, if_neg (by omega), if_pos (by omega)]
      rw [List.map_append]
      show (ss0.map (fun s => V.ref s.pt) ++ [V.ref sl.pt])[((-1 : Int) + ((ss0.length + 1 : Nat) : Int)).toNat]? = _
      rw [show ((-1 : Int) + ((ss0.length + 1 : Nat) : Int)).toNat = (ss0.map fun s => V.ref s.pt).length by rw [List.length_map]; omega]
      simp
    refine ⟨.ref p, rfl, 1, rfl, p, _, -1, .ref sl.pt, rfl, rfl, SqL.of sts6.at_, hat, ?_⟩
    refine ⟨sl.pt, _, rfl, sqT_mono vw_same a1, rfl, _, _, rfl, _, _, rfl, _, _, rfl, rfl, ?_⟩
    -- len(left) == 0
    refine s_if (b := decide (sl.lots.length = 0)) s6.ok ((et_test (ev_eqI (ev_lenL (K := K) (EvD.to_rl (ev_var rfl rfl) a3)) ev_int)).is (decide_eq_decide.mpr (by rw [List.length_map]; omega))) (fun hb H7 e7 => ?_) fun hb H7 e7 => ?_
    · have sts7 := sts6.go e7
      have s7 := s6.then_r e7
      have t7 := t6.then_r e7
      refine ⟨.ref p, rfl, .inl ⟨rfl, _, SqL.of sts7.at_⟩, p, _, .ref sl.pt, rfl, rfl, sts7.at_, ?_, ?_⟩
      · rw [List.length_map, List.length_append, List.length_singleton, List.map_append]
        show (ss0.map (fun s => V.ref s.pt) ++ [V.ref sl.pt])[ss0.length + 1 - 1]? = _
        rw [show ss0.length + 1 - 1 = (ss0.map fun s => V.ref s.pt).length by rw [List.length_map]; omega]
        simp
      · have sp := sts7.pop s7.ok
        have hdl : ((ss0 ++ [sl]).map fun s => V.ref s.pt).dropLast = ss0.map fun s => V.ref s.pt := by
          rw [List.map_append]
          exact List.dropLast_concat ..
        rw [hdl]
        refine ⟨ss0, ⟨m', ⟨_, _, _, _, _, _, _, _, rfl⟩, s7.trans (Stp.put s7.ok sts7.lo hB), t7.trans (Stp.put s7.ok sts7.lo hB), sp, fun s hs => hnl s (List.mem_append_left _ hs), fun i s hs => hinv i s ?_⟩, weight_pop _ _ _⟩
        rw [List.getElem?_append_left (List.getElem?_eq_some_iff.mp hs).1]
        exact hs
    · have hlne : sl.lots ≠ [] := fun z => by
        rw [z] at hb
        exact absurd hb (by decide)
      obtain ⟨lot, lrest, hlr⟩ : ∃ lot lrest, sl.lots = lot :: lrest := by
        cases hx : sl.lots with
        | nil => exact absurd hx hlne
        | cons a b => exact ⟨a, b, rfl⟩
      have sts7 := sts6.go e7
      have s7 := s6.then_r e7
      have t7 := t6.then_r e7
      obtain ⟨hplm, ws, w1, w2⟩ := a3.go e7
      rw [hlr] at w2
      obtain ⟨lv, ws', rfl, g1, g2⟩ : ∃ lv ws', ws = lv :: ws' ∧ Dp K (m'.vw H7) lv (dInts lot) ∧ DpAll K (m'.vw H7) ws' (lrest.map dInts) := by
        cases w2 with
        | cons x y => exact ⟨_, _, rfl, x, y⟩
      refine ⟨.ref sl.pl, rfl, .inl ⟨rfl, _, SqL.of w1⟩, sl.pl, lv :: ws', 0, 0, lv, rfl, rfl, w1, by omega, by omega, ?_, rfl, ?_⟩
      · refine (ixN_seq ?_).1
        unfold ixN
        rw [if_pos (by omega), if_pos (by rw [List.length_cons]; omega)]
        rfl
      have hpl' := hnl sl (List.mem_append_right _ (List.mem_singleton.mpr rfl))
      have s8 := s7.trans (Stp.put (o := .lst ws') s7.ok hplm hpl')
      have t8 := t7.trans (Stp.put (o := .lst ws') s7.ok hplm hpl')
      have sts8 : StepsAt m' K (upd H7 sl.pl (.lst ws')) p (ss0 ++ [{ sl with lots := lrest }]) := sts7.left s7.ok g2
      have jl8 : Is m' K (upd H7 sl.pl (.lst ws')) lv (.d (dInts lot)) := by
        have w : m'.W [sl.pl] H7 (upd H7 sl.pl (.lst ws')) := W.put s7.ok hplm (List.mem_cons_self ..)
        exact Dp.mono w.ex _ _ g1
      rw [show (lv :: ws').eraseIdx 0 = ws' from rfl]
      generalize upd H7 sl.pl (.lst ws') = H8 at s8 t8 sts8 jl8 ⊢
      have jd8 : Is m' K H8 (.ref sl.pd) (.dct sl.d) := (sts8.all { sl with lots := lrest } (List.mem_append_right _ (List.mem_singleton.mpr rfl))).1.2.1
      refine z_copy (B := m'.lo) (K := K) (d := sl.d) (te := tVar 4) (i := 8) (σ := [some v, some v2, some vr, some (.ref p), some (.ref sl.pd), some (.int (sl.u : Int)), some (.ref sl.pl), some lv, e, f, g, h]) s8.ok (ev_var rfl jd8) fun p8 H9 u9 hp8 oth9 o9 keep9 => ?_
      have hssl : ss0.length < ms.length := hi
      have hrm : ∀ {m2 : Md} {H2 : Hp} {σ : L2.St}, Stp m'.lo m' m2 H8 H2 → σ[2]? = some (some vr) → EvD m2 K (tVar 2) σ H2 (.tl ((rooms.map fun (n : Nat) => (n : Int)).map .int)) := fun t h2 => ev_var h2 (t.fix (t8.fix jr rfl) rfl)
      have hfresh : ((rooms.getD ss0.length 0 : Nat) : Int) ∉ sl.d.map (·.1) := by
        rw [hkeys]
        intro z
        obtain ⟨x, hx, e⟩ := List.mem_map.mp z
        have hxe : x = rooms.getD ss0.length 0 := by omega
        subst hxe
        obtain ⟨j, hj, ej⟩ := List.getElem_of_mem hx
        rw [List.length_take] at hj
        rw [List.getElem_take, List.getD_eq_getElem?_getD, List.getElem?_eq_getElem (by omega)] at ej
        have := (List.getElem_inj hrnd).mp (show rooms[j] = rooms[ss0.length] from ej)
        omega
      have lenS : ∀ {m2 : Md} {H2 : Hp} {σ : L2.St} {l : List SStep}, StepsAt m2 K H2 p l → σ[3]? = some (some (.ref p)) → EvD m2 K (tCB (rLenS K) (tCons (tVar 3) tNil)) σ H2 (.d (.int (l.length : Int))) := fun {m2 H2 σ l} o h3 H6 e6 Q q => by
        have := (o.go e6).at_
        refine ⟨.ref p, h3, p, _, rfl, .inl (SqL.of this), ?_⟩
        rw [List.length_map]
        exact q _ H6 (R.refl e6.ok) (.int _)
      have sts9 := sts8.stp (B := m'.lo) u9 sts8.lo sts8.lt
      have hp8m : p8 ∉ m'.lo := fun z => by
        obtain ⟨o, ho, _⟩ := s8.ok.lo p8 z
        rw [hp8] at ho
        cases ho
      have hdl : sl.d.length ≤ 1000 := by
        have := congrArg List.length hkeys
        rw [List.length_map, List.length_map, List.length_take] at this
        omega
      refine q_dput (B := m'.lo) (K := K) (d := sl.d) (kk := ((rooms.getD ss0.length 0 : Nat) : Int)) (lot := lot) u9.ok (ev_var rfl rfl) o9 (ev_ixL (i := (ss0.length : Int)) (ev_tlr (hrm u9 rfl)) ((ev_ii (g := fun i j => i - j) (lenS sts9 rfl) (ev_int (i := 1))).is ?_) (atI_nat (room_at _ hssl))) (ev_var rfl (u9.fix jl8 rfl)) hfresh hdl hp8m fun H10 u10 o10 keep10 => ?_
      · rw [List.length_append, List.length_singleton]
        congr 2
        omega
      have v10 : Stp m'.lo m' m' H8 H10 := Stp.unhide s8.ok hp8 (u9.trans u10)
      have jlat : Is m' K H10 (.ref p8) (.dct (sl.d ++ [(((rooms.getD ss0.length 0 : Nat) : Int), lot)])) := o10.show s8.ok hp8
      have sts10 := sts8.stp v10 sts8.lo sts8.lt
      have jl10 : Is m' K H10 lv (.d (dInts lot)) := v10.fix jl8 rfl
      have s10 : Stp m.lo m m' H H10 := s8.trans (v10.weak s8.sub)
      have t10 : Stp m.lo m m' H3 H10 := t8.trans (v10.weak s8.sub)
      have hlot : LotOk ms ts k' (rooms.getD ss0.length 0) sl.d lot := hlots lot (by rw [hlr]; exact List.mem_cons_self ..)
      have hdlen : (sl.d ++ [(((rooms.getD ss0.length 0 : Nat) : Int), lot)]).length = ss0.length + 1 := by
        have := congrArg List.length hkeys
        rw [List.length_map, List.length_map, List.length_take] at this
        rw [List.length_append, List.length_singleton]
        omega
      refine q_when (b := decide (ss0.length + 1 = ms.length)) s10.ok ((et_test (ev_eqI (ev_lenD (ev_var rfl jlat)) (ev_lenL (ev_tlr (ev_var rfl (t10.fix jr rfl)))))).is ?_) (fun hb2 H11 e11 => ?_) fun hb2 H11 e11 => ?_
      · rw [hdlen, List.length_map, List.length_map, hrl]
        exact decide_eq_decide.mpr (by omega)
      · have hend : ss0.length + 1 = ms.length := of_decide_eq_true hb2
        have s11 := s10.then_r e11
        have hkeys2 : (sl.d ++ [(((rooms.getD ss0.length 0 : Nat) : Int), lot)]).map (·.1) = rooms.map (fun (n : Nat) => (n : Int)) := by
          have e1 : (sl.d ++ [(((rooms.getD ss0.length 0 : Nat) : Int), lot)]).map (·.1) = (rooms.take (ss0.length + 1)).map (fun (n : Nat) => (n : Int)) := by
            rw [List.map_append, hkeys, List.take_add_one, List.getElem?_eq_getElem (by omega), List.map_append, List.getD_eq_getElem?_getD, List.getElem?_eq_getElem (by omega)]
            rfl
          rw [e1, List.take_of_length_le (by omega)]
        have jl11 := jlat.mono e11
        have hdok2 := hdok.add hw hlot huk fun t ht => (hlot.2.2.1 t ht).2
        have hall : ∀ r : Nat, r < ms.length → ∃ l, (sl.d ++ [(((rooms.getD ss0.length 0 : Nat) : Int), lot)]).lookup (r : Int) = some l := fun r hr => lookup_some (by
          rw [hkeys2]
          exact List.mem_map.mpr ⟨r, hperm.mem_iff.mpr (List.mem_range.mpr hr), rfl⟩)
        have hdone := hdok2.done hw hall
        generalize sl.d ++ [(((rooms.getD ss0.length 0 : Nat) : Int), lot)] = dd at jl11 hkeys2 hall hdone hdlen
        refine s_bind (K := K) (fun te => tRet (tCB (rTupOf K) (tCons (tLc (iList K te) (gName 10) tYes (tDGet (tVar 8) (tVar 10)) _) tNil))) (fun _ _ _ _ => rfl) s11.ok (es_sortD (ev_var rfl jl11) (by omega)) fun r vs' H12 e12 hr js => ?_
        obtain ⟨ys, rfl, hp, hs⟩ := hr
        rw [hkeys2] at hp
        have hys := sorted_rooms hperm hp hs
        subst hys
        have s12 := s11.then_r e12
        have jl12 := jl11.mono e12
        refine s_ret (K := K) (r := .d (.tuple (((List.range ms.length).map fun (r : Nat) => (dd.lookup (r : Int)).getD []).map dInts))) s12.ok (ev_tupL (ev_tlr ((ev_lcL (fun _ => true) (dGetD dd) (ev_tl (ev_cv js)) (by rw [List.length_map, List.length_map, List.length_range]; exact Nat.le_trans hn5 (by decide)) (fun _ => rfl) (fun m2 H2 d u hd I hi => et_yes rfl) (fun m2 H2 d u hd I hi hh => ?_)).is ?_))) fun vr' H13 e13 i13 => ?_
        · obtain ⟨t, ht, rfl⟩ := List.mem_map.mp hd
          obtain ⟨r, hr, rfl⟩ := List.mem_map.mp ht
          obtain ⟨l, hl⟩ := hall r (List.mem_range.mp hr)
          refine EvD.is (ev_dget (kvs := dd) (k := (r : Int)) (l := l) (ev_var rfl (I.is _ _ jl12)) (ev_var rfl hi) hl) ?_
          show _ = Dx.d (dInts ((dd.lookup (r : Int)).getD []))
          rw [hl]
          rfl
        · rw [filter_true, List.map_map, List.map_map, List.map_map]
          rfl
        · exact q _ vr' H13 (s12.then_r e13).r ⟨some _, rfl, fun ds h => by
            cases h
            exact hdone⟩ ((s12.then_r e13).out i13)
      · have hne2 : ss0.length + 1 < ms.length := by
          have := of_decide_eq_false hb2
          omega
        have s11 := s10.then_r e11
        have t11 := t10.then_r e11
        have jl11 := jl10.mono e11
        let ns : List Int := (sl.u : Int) :: lot.map fun t => t + 1
        have hlotlen : lot.length ≤ 4 := by
          rw [hlot.1, List.getD_eq_getElem?_getD, List.getElem?_eq_getElem (room_lt _ hssl)]
          exact Nat.succ_le_succ (hw.mem _ (List.getElem_mem (room_lt _ hssl)))
        refine q_asgS s11.ok (es_maxL (ns := ns) (ev_tlr ((ev_catL (ds := [.int (sl.u : Int)]) (es := (lot.map fun t => t + 1).map .int) (ev_lst (ds := [.int (sl.u : Int)]) (ea_cons (ev_var rfl (.int _)) ea_nil)) ((ev_lcT (ds := lot.map .int) (fun _ => true) plusD (ev_var rfl jl11) (by rw [List.length_map]; omega) (fun _ => rfl) (fun m2 H2 d u hd I hi => et_yes rfl) (fun m2 H2 d u hd I hi hh => ?_)).is ?_) (by rw [List.length_map, List.length_map]; simp only [List.length_singleton]; omega)).is rfl)) (by simp [ns])) fun r vm H12 e12 hr jm => ?_
        · obtain ⟨t, ht, rfl⟩ := List.mem_map.mp hd
          exact ev_ii (g := fun i j => i + j) (i := t) (j := 1) (ev_var rfl hi) ev_int
        · rw [filter_true, List.map_map, List.map_map]
          rfl
        · obtain ⟨mx, rfl, hmem, hmax⟩ := hr
          have hmx0 := hmax (sl.u : Int) (List.mem_cons_self ..)
          obtain ⟨mu, rfl⟩ : ∃ n : Nat, mx = (n : Int) := ⟨mx.toNat, by omega⟩
          have hmuk : mu ≤ k' := by
            rcases List.mem_cons.mp hmem with h | h
            · omega
            · obtain ⟨t, ht, e⟩ := List.mem_map.mp h
              have := (hlot.2.2.1 t ht).2
              omega
          have hlt : ∀ t ∈ lot, t < (mu : Int) := fun t ht => by
            have := hmax (t + 1) (List.mem_cons_of_mem _ (List.mem_map.mpr ⟨t, ht, rfl⟩))
            omega
          have hdok2 := hdok.add hw hlot (show sl.u ≤ mu by omega) hlt
          have s12 := s11.then_r e12
          have t12 := t11.then_r e12
          have sts12 := (sts10.go e11).go e12
          have e1012 := R.trans e11 e12
          refine z_push (B := m.lo) (K := K) (d := sl.d ++ [(((rooms.getD ss0.length 0 : Nat) : Int), lot)]) (u := mu) e12.ok (ev_var rfl rfl) sts12 (ev_var rfl (jlat.mono e1012)) (ev_var rfl jm) (ev_lots (k := k') (room := rooms.getD (ss0.length + 1) 0) (used := mu) (ea_cons (ev_var rfl (s12.is i1)) (ea_cons (ev_var rfl (s12.is i2)) (ea_cons (ev_ixL (i := ((ss0.length + 1 : Nat) : Int)) (ev_tlr (ev_var rfl (t12.fix jr rfl))) ((lenS sts12 rfl).is (by rw [List.length_append]; rfl)) (atI_nat (room_at _ hne2))) (ea_cons (ev_var rfl (jlat.mono e1012)) (ea_cons (ev_var rfl jm) ea_nil))))) hw (room_lt _ hne2) hk10 hmuk (fun o tags h => ?_)) (by rw [List.length_append, List.length_singleton]; omega) hB s12.sub fun H13 s2 s13 hs2 sts13 hd2 hu2 hS2 => ?_
          · obtain ⟨n, rfl⟩ : ∃ n : Nat, o = (n : Int) := by
              have hm := lookup_mem h
              rw [List.map_append, hkeys] at hm
              rcases List.mem_append.mp hm with h | h
              · obtain ⟨x, _, e⟩ := List.mem_map.mp h
                exact ⟨x, e.symm⟩
              · exact ⟨_, List.mem_singleton.mp h⟩
            obtain ⟨b1, _, b3⟩ := hdok2.lot n tags h
            have hm3 : ms.getD n 0 ≤ 3 := by
              rw [List.getD_eq_getElem?_getD]
              cases hx : ms[n]? with
              | none => exact Nat.zero_le _
              | some x => exact hw.mem x (List.mem_of_getElem? hx)
            exact ⟨by omega, fun t ht => (b3 t ht).2.2⟩
          · refine ⟨(ss0 ++ [{ sl with lots := lrest }]) ++ [s2], ⟨m'.hide s2.pl, ⟨_, _, _, _, _, _, _, _, rfl⟩, s12.trans s13, t12.trans s13, sts13, fun s hs => ?_, fun i s hs => ?_⟩, weight_push hssl (by rw [hlr]; rfl) hS2.1⟩
            · rcases List.mem_append.mp hs with h | h
              · rcases List.mem_append.mp h with h | h
                · exact hnl s (List.mem_append_left _ h)
                · rw [List.mem_singleton.mp h]
                  exact hpl'
              · rw [List.mem_singleton.mp h]
                exact hBk _ (s12.dom _ hs2)
            · by_cases hil : i < ss0.length
              · rw [List.getElem?_append_left (by rw [List.length_append]; omega), List.getElem?_append_left hil] at hs
                exact hinv i s (by rw [List.getElem?_append_left hil]; exact hs)
              · by_cases hie : i = ss0.length
                · subst hie
                  rw [List.getElem?_append_left (by rw [List.length_append, List.length_singleton]; omega), List.getElem?_concat_length] at hs
                  have hs := Option.some.inj hs
                  subst hs
                  refine ⟨hi, hkeys, hdok, huk, ?_, fun lot' hl' => hlots lot' (by rw [hlr]; exact List.mem_cons_of_mem _ hl')⟩
                  rw [hlr] at hll
                  exact Nat.le_of_succ_le hll
                · have hilt := (List.getElem?_eq_some_iff.mp hs).1
                  rw [List.length_append, List.length_append, List.length_singleton, List.length_singleton] at hilt
                  have hi2 : i = (ss0 ++ [{ sl with lots := lrest }]).length := by rw [List.length_append, List.length_singleton]; omega
                  subst hi2
                  rw [List.getElem?_concat_length] at hs
                  have hs := Option.some.inj hs
                  subst hs
                  rw [List.length_append, List.length_singleton]
                  refine ⟨hne2, ?_, by rw [hd2, hu2]; exact hdok2, by rw [hu2]; exact hmuk, hS2.1, by rw [hd2]; exact hS2.2⟩
                  rw [hd2, List.map_append, hkeys, List.take_add_one, List.getElem?_eq_getElem (by omega), List.map_append, List.getD_eq_getElem?_getD, List.getElem?_eq_getElem (by omega)]
                  rfl
  · rw [decide_eq_false hz, if_neg (by decide)]
    show tRet (tC V.non) { nx := fun _ H' => Q .non H', rt := Q } [some v, some v2, some vr, some (.ref p), a, b, c, d, e, f, g, h] H6
    refine s_ret (K := K) s6.ok ev_non fun vr' H7 e7 i7 => ?_
    exact q _ vr' H7 (s6.then_r e7).r ⟨none, rfl, fun ds h => by cases h⟩ ((s6.then_r e7).out i7)
end
end K20
end
section
set_option linter.all false
set_option maxRecDepth 100000
set_option maxHeartbeats 2000000
set_option autoImplicit false
namespace K20
open PySem PySem.Spec PyProof.Rows L2 LamX NdefX PySem.W
/-! ### plain maths: what an unseeing keeper gives, giving by giving -/
def gvM (nx : Nat → List Int → PyData) (r : Nat) : Nat → List Int
  | 0 => []
  | c + 1 => gvM nx r c ++ [tagI (nx r (gvM nx r c))]
section
variable {nx : Nat → List Int → PyData} {r k mem : Nat}
theorem gvM_len : ∀ c, (gvM nx r c).length = c
  | 0 => rfl
  | c + 1 => by
    show (gvM nx r c ++ [_]).length = _
    rw [List.length_append, gvM_len c, List.length_singleton]
theorem gvM_take : ∀ {c j : Nat}, j ≤ c → (gvM nx r c).take j = gvM nx r j
  | 0, j, h => by
    obtain rfl : j = 0 := by omega
    rfl
  | c + 1, j, h => by
    by_cases e : j = c + 1
    · subst e
      exact List.take_of_length_le (by rw [gvM_len]; exact Nat.le_refl _)
    · show (gvM nx r c ++ [_]).take j = _
      rw [List.take_append_of_le_length (by rw [gvM_len]; omega)]
      exact gvM_take (by omega)
theorem gvM_get {c j : Nat} (h : j < c) : (gvM nx r c)[j]? = some (tagI (nx r (gvM nx r j))) := by
  have e : (gvM nx r c)[j]? = ((gvM nx r c).take (j + 1))[j]? := by rw [List.getElem?_take, if_pos (by omega)]
  rw [e, gvM_take (by omega)]
  show (gvM nx r j ++ [_])[j]? = _
  rw [List.getElem?_append_right (by rw [gvM_len]; exact Nat.le_refl _), gvM_len, Nat.sub_self]
  rfl
theorem gvM_getD {c j : Nat} (h : j < c) : (gvM nx r c).getD j 0 = tagI (nx r (gvM nx r j)) := by
  rw [List.getD_eq_getElem?_getD, gvM_get h]
  rfl
theorem tagsR_spec : ∀ n c, ∃ e, (tagsR nx k mem r n (gvM nx r c)).1 = gvM nx r e ∧ c ≤ e ∧ (∀ j, c ≤ j → j < e → badM k mem (gvM nx r j) (nx r (gvM nx r j)) = false) ∧
    (((tagsR nx k mem r n (gvM nx r c)).2 = none ∧ e = c + n) ∨ ((tagsR nx k mem r n (gvM nx r c)).2 = some (nx r (gvM nx r e)) ∧ e < c + n ∧ badM k mem (gvM nx r e) (nx r (gvM nx r e)) = true))
  | 0, c => ⟨c, rfl, Nat.le_refl _, fun j h1 h2 => by omega, .inl ⟨rfl, rfl⟩⟩
  | n + 1, c => by
    by_cases hb : badM k mem (gvM nx r c) (nx r (gvM nx r c)) = true
    · have e : tagsR nx k mem r (n + 1) (gvM nx r c) = (gvM nx r c, some (nx r (gvM nx r c))) := by
        show (if _ then _ else _) = _
        rw [if_pos hb]
      rw [e]
      exact ⟨c, rfl, Nat.le_refl _, fun j h1 h2 => by omega, .inr ⟨rfl, by omega, hb⟩⟩
    · have e : tagsR nx k mem r (n + 1) (gvM nx r c) = tagsR nx k mem r n (gvM nx r (c + 1)) := by
        show (if _ then _ else _) = _
        rw [if_neg hb]
        rfl
      rw [e]
      obtain ⟨x, h1, h2, h3, h4⟩ := tagsR_spec n (c + 1)
      refine ⟨x, h1, by omega, fun j g1 g2 => ?_, ?_⟩
      · by_cases ej : j = c
        · subst ej
          simpa using hb
        · exact h3 j (by omega) g2
      · rcases h4 with ⟨a, b⟩ | ⟨a, b, d⟩
        · exact .inl ⟨a, by omega⟩
        · exact .inr ⟨a, by omega, d⟩
theorem tagsR_of (n : Nat) : ∃ e, (tagsR nx k mem r n []).1 = gvM nx r e ∧ (∀ j, j < e → badM k mem (gvM nx r j) (nx r (gvM nx r j)) = false) ∧
    (((tagsR nx k mem r n []).2 = none ∧ e = n) ∨ ((tagsR nx k mem r n []).2 = some (nx r (gvM nx r e)) ∧ e < n ∧ badM k mem (gvM nx r e) (nx r (gvM nx r e)) = true)) := by
  obtain ⟨e, h1, _, h3, h4⟩ := tagsR_spec (nx := nx) (k := k) (mem := mem) (r := r) n 0
  refine ⟨e, h1, fun j h => h3 j (Nat.zero_le _) h, ?_⟩
  rcases h4 with ⟨a, b⟩ | ⟨a, b, d⟩
  · exact .inl ⟨a, by omega⟩
  · exact .inr ⟨a, by omega, d⟩
end
/-! ### leading, asking by asking -/
def deedM (g : Ldg) (s : List Deed × Stand) (a : Ask) : Deed := if a.1 = true then .give a.2 (tagI (g.nx a.2 (tagsOf s.1 a.2))) else .back a.2
theorem room_deedM (g : Ldg) (s : List Deed × Stand) (a : Ask) : roomD (deedM g s a) = a.2 := by
  unfold deedM
  split <;> rfl
def runM (g : Ldg) : List Ask → List Deed × Stand → List Deed × Stand
  | [], s => s
  | a :: as, s => runM g as (dn g.ms s (deedM g s a))
theorem step_kept {g : Ldg} {s : List Deed × Stand} {a : Ask} (h : (stepM g s a).1 = "kept") : (stepM g s a).2 = dn g.ms s (deedM g s a) := by
  obtain ⟨b, r⟩ := a
  cases b with
  | false => rfl
  | true =>
    unfold stepM at h ⊢
    simp only [Bool.true_eq_false, if_false] at h ⊢
    split at h
    · rename_i hh
      rw [if_pos hh]
      rfl
    · rename_i hh
      exact absurd (.inl h) hh
theorem led_cons {g : Ldg} {a : Ask} {as : List Ask} {s : List Deed × Stand} : (ledM g (a :: as) s).2 = "kept" ↔ (stepM g s a).1 = "kept" ∧ (ledM g as (dn g.ms s (deedM g s a))).2 = "kept" := by
  rw [ledM_cons]
  by_cases h : (stepM g s a).1 = "kept"
  · rw [if_pos h, step_kept h]
    exact ⟨fun x => ⟨h, x⟩, fun x => x.2⟩
  · rw [if_neg h]
    exact ⟨fun x => absurd x h, fun x => absurd x.1 h⟩
theorem led_app {g : Ldg} : ∀ {xs ys : List Ask} {s : List Deed × Stand}, (ledM g (xs ++ ys) s).2 = "kept" ↔ (ledM g xs s).2 = "kept" ∧ (ledM g ys (runM g xs s)).2 = "kept"
  | [], ys, s => ⟨fun h => ⟨rfl, h⟩, fun h => h.2⟩
  | a :: xs, ys, s => by
    rw [List.cons_append, led_cons, led_cons, led_app]
    exact ⟨fun ⟨a, b, c⟩ => ⟨⟨a, b⟩, c⟩, fun ⟨⟨a, b⟩, c⟩ => ⟨a, b, c⟩⟩
theorem runM_app (g : Ldg) : ∀ (xs ys : List Ask) (s : List Deed × Stand), runM g (xs ++ ys) s = runM g ys (runM g xs s)
  | [], _, _ => rfl
  | a :: xs, ys, s => runM_app g xs ys _
theorem run_linv {g : Ldg} : ∀ {row : List Ask} {s : List Deed × Stand}, (∀ a ∈ row, a.2 < g.ms.length) → LInv g.ms s → LInv g.ms (runM g row s)
  | [], _, _, h => h
  | a :: as, s, hr, h => run_linv (row := as) (fun b hb => hr b (List.mem_cons_of_mem _ hb)) (linv_dn h _ (by rw [room_deedM]; exact hr a (List.mem_cons_self ..)))
theorem tags_dn (g : Ldg) (s : List Deed × Stand) (a : Ask) (r c : Nat) (h : tagsOf s.1 r = gvM g.nx r c) : tagsOf (dn g.ms s (deedM g s a)).1 r = gvM g.nx r (c + if a = (true, r) then 1 else 0) := by
  show tagsOf (s.1 ++ [deedM g s a]) r = _
  rw [tagsOf_snoc, h]
  obtain ⟨b, r'⟩ := a
  cases b with
  | false =>
    show gvM g.nx r c ++ [] = _
    rw [if_neg (by intro e; cases e), List.append_nil]
    rfl
  | true =>
    show gvM g.nx r c ++ (if r' = r then [tagI (g.nx r' (tagsOf s.1 r'))] else []) = _
    by_cases e : r' = r
    · subst e
      rw [if_pos rfl, if_pos rfl, h]
      rfl
    · rw [if_neg e, if_neg (fun z => e (by cases z; rfl)), List.append_nil]
      rfl
theorem run_tags {g : Ldg} : ∀ (row : List Ask) (s : List Deed × Stand) (r c : Nat), tagsOf s.1 r = gvM g.nx r c → tagsOf (runM g row s).1 r = gvM g.nx r (c + row.count (true, r))
  | [], _, _, _, h => h
  | a :: as, s, r, c, h => by
    show tagsOf (runM g as (dn g.ms s (deedM g s a))).1 r = _
    rw [run_tags as _ r _ (tags_dn g s a r c h), List.count_cons]
    congr 1
    by_cases e : a = (true, r)
    · rw [if_pos e, if_pos (beq_iff_eq.mpr e)]
      omega
    · rw [if_neg e, if_neg (fun z => e (beq_iff_eq.mp z))]
      omega
/-- who is held -/
theorem here_held (ms : List Nat) (st : Stand) (g : Ldg) (s : List Deed × Stand) (a : Ask) : (hereM ms st (deedM g s a)).1 = a.1 := by
  unfold deedM
  obtain ⟨b, r⟩ := a
  cases b <;> rfl
theorem dn_at {g : Ldg} {s : List Deed × Stand} {a : Ask} (hl : s.2.length = g.ms.length) (ha : a.2 < g.ms.length) (r : Nat) : (at_ (dn g.ms s (deedM g s a)).2 r).1 = if a.2 = r then a.1 else (at_ s.2 r).1 := by
  show (at_ (s.2.set (roomD (deedM g s a)) (hereM g.ms s.2 (deedM g s a))) r).1 = _
  rw [at_set (by rw [room_deedM]; omega), room_deedM]
  by_cases e : a.2 = r
  · rw [if_pos e, if_pos e, here_held]
  · rw [if_neg e, if_neg e]
theorem run_other {g : Ldg} {r : Nat} : ∀ {row : List Ask} {s : List Deed × Stand}, (∀ a ∈ row, a.2 < g.ms.length ∧ a.2 ≠ r) → s.2.length = g.ms.length → (at_ (runM g row s).2 r).1 = (at_ s.2 r).1
  | [], _, _, _ => rfl
  | a :: as, s, hr, hl => by
    obtain ⟨h1, h2⟩ := hr a (List.mem_cons_self ..)
    show (at_ (runM g as (dn g.ms s (deedM g s a))).2 r).1 = _
    rw [run_other (fun b hb => hr b (List.mem_cons_of_mem _ hb)) (by show (afterM g.ms s.2 _).length = _; rw [after_len, hl]), dn_at hl h1, if_neg h2]
/-! words -/
theorem bad_word {ms : List Nat} {ts : List (Nat × Nat)} {k r : Nat} {s : List Deed × Stand} {tag : PyData} (hL : LInv ms s) (hr : r < ms.length) (hb : badM k (ms.getD r 0) (tagsOf s.1 r) tag = true) : wordM ms ts k s.2 r tag ≠ "kept" := by
  unfold badM at hb
  cases tag with
  | int t =>
    by_cases ho : oddM k (.int t) = true
    · show (if oddM k (.int t) = true then ("odd" : Str) else _) ≠ _
      rw [if_pos ho]
      decide
    · have hm : t ∈ (tagsOf s.1 r).drop ((tagsOf s.1 r).length - ms.getD r 0) := by
        rw [Bool.or_eq_true] at hb
        rcases hb with hb | hb
        · exact absurd hb ho
        · have := of_decide_eq_true hb
          rwa [show (tagsOf s.1 r).length - min (tagsOf s.1 r).length (ms.getD r 0) = (tagsOf s.1 r).length - ms.getD r 0 by omega] at this
      have hbar : barM ms ts s.2 r t = true := by
        rw [← bar_law hL hr t, decide_eq_true hm, Bool.or_true]
      show (if oddM k (.int t) = true then ("odd" : Str) else if barM ms ts s.2 r t = true then "barred" else "kept") ≠ _
      rw [if_neg ho, if_pos hbar]
      decide
  | none => show ("stuck" : Str) ≠ "kept"; decide
  | bool _ => show ("odd" : Str) ≠ "kept"; decide
  | str _ => show ("odd" : Str) ≠ "kept"; decide
  | list _ => show ("odd" : Str) ≠ "kept"; decide
  | tuple _ => show ("odd" : Str) ≠ "kept"; decide
  | dict _ => show ("odd" : Str) ≠ "kept"; decide
theorem barred_word {ms : List Nat} {ts : List (Nat × Nat)} {k r : Nat} {s : List Deed × Stand} {t : Int} (hL : LInv ms s) (hr : r < ms.length) (hb : t ∈ shownM ms.length ts s r) : wordM ms ts k s.2 r (.int t) ≠ "kept" := by
  have hbar : barM ms ts s.2 r t = true := by
    rw [← bar_law hL hr t, decide_eq_true hb, Bool.true_or]
  show (if oddM k (.int t) = true then ("odd" : Str) else if barM ms ts s.2 r t = true then "barred" else "kept") ≠ _
  rw [if_pos hbar]
  split <;> decide
theorem good_word {ms : List Nat} {ts : List (Nat × Nat)} {k r : Nat} {s : List Deed × Stand} {tag : PyData} (hL : LInv ms s) (hr : r < ms.length) (hb : badM k (ms.getD r 0) (tagsOf s.1 r) tag = false) (hs : tagI tag ∉ shownM ms.length ts s r) : wordM ms ts k s.2 r tag = "kept" := by
  unfold badM at hb
  rw [Bool.or_eq_false_iff] at hb
  obtain ⟨h1, h2⟩ := hb
  cases tag with
  | int t =>
    have hm : t ∉ (tagsOf s.1 r).drop ((tagsOf s.1 r).length - ms.getD r 0) := by
      have := of_decide_eq_false h2
      rwa [show (tagsOf s.1 r).length - min (tagsOf s.1 r).length (ms.getD r 0) = (tagsOf s.1 r).length - ms.getD r 0 by omega] at this
    have hbar : barM ms ts s.2 r t = false := by
      rw [← bar_law hL hr t, decide_eq_false hm, Bool.or_false]
      exact decide_eq_false hs
    show (if oddM k (.int t) = true then ("odd" : Str) else if barM ms ts s.2 r t = true then "barred" else "kept") = _
    rw [if_neg (by rw [h1]; decide), if_neg (by rw [hbar]; decide)]
  | none => cases h1
  | bool _ => cases h1
  | str _ => cases h1
  | list _ => cases h1
  | tuple _ => cases h1
  | dict _ => cases h1
theorem step_give {g : Ldg} {s : List Deed × Stand} {r : Nat} : (stepM g s (true, r)).1 = "kept" ↔ wordM g.ms g.ts g.k s.2 r (g.nx r (tagsOf s.1 r)) = "kept" := by
  unfold stepM
  simp only [Bool.true_eq_false, if_false]
  split <;> exact Iff.rfl
/-! ### rowFor -/
def blkM (r n : Nat) : List Ask := (List.replicate n [(true, r), (false, r)]).flatten
theorem rowFor_eq (r n : Nat) : rowFor r (n + 1) = blkM r n ++ [(true, r)] := rfl
theorem blkM_succ (r n : Nat) : blkM r (n + 1) = (true, r) :: (false, r) :: blkM r n := by
  unfold blkM
  rw [List.replicate_succ, List.flatten_cons]
  rfl
theorem blk_room (r n : Nat) : ∀ a ∈ blkM r n, a.2 = r := by
  induction n with
  | zero => intro a h; cases h
  | succ n ih =>
    intro a h
    rw [blkM_succ] at h
    rcases List.mem_cons.mp h with h | h
    · rw [h]
    · rcases List.mem_cons.mp h with h | h
      · rw [h]
      · exact ih a h
theorem rowFor_room (r n : Nat) : ∀ a ∈ rowFor r (n + 1), a.2 = r := by
  intro a h
  rw [rowFor_eq] at h
  rcases List.mem_append.mp h with h | h
  · exact blk_room r n a h
  · rw [List.mem_singleton.mp h]
theorem blk_count (r n : Nat) : (blkM r n).count (true, r) = n := by
  induction n with
  | zero => rfl
  | succ n ih =>
    rw [blkM_succ, List.count_cons, List.count_cons, ih, if_pos (beq_self_eq_true _), if_neg (by simp)]
theorem count_other {r r' : Nat} {l : List Ask} (h : ∀ a ∈ l, a.2 = r) (ne : r ≠ r') : l.count (true, r') = 0 := by
  rw [List.count_eq_zero]
  intro z
  exact ne (h _ z).symm
theorem rowFor_count (r n : Nat) : (rowFor r (n + 1)).count (true, r) = n + 1 := by
  rw [rowFor_eq, List.count_append, blk_count, List.count_singleton]
  simp
theorem rowOk_app (ms : List Nat) : ∀ (xs ys : List Ask) (st : Stand), rowOkFrom ms st (xs ++ ys) = (rowOkFrom ms st xs && rowOkFrom ms (standAfter ms st xs) ys)
  | [], ys, st => by
    rw [List.nil_append]
    show _ = (true && _)
    rw [Bool.true_and]
    rfl
  | a :: xs, ys, st => by
    show (askOk ms st a && rowOkFrom ms (afterM ms st (askDeed a)) (xs ++ ys)) = ((askOk ms st a && rowOkFrom ms (afterM ms st (askDeed a)) xs) && _)
    rw [rowOk_app ms xs ys, Bool.and_assoc]
    rfl
theorem after_at (ms : List Nat) (st : Stand) (a : Ask) (h : a.2 < st.length) (r : Nat) : (at_ (afterM ms st (askDeed a)) r).1 = if a.2 = r then a.1 else (at_ st r).1 := by
  obtain ⟨b, r'⟩ := a
  cases b
  · show (at_ (st.set r' (hereM ms st (.back r'))) r).1 = _
    rw [at_set h]
    by_cases e : r' = r
    · rw [if_pos e, if_pos e]; rfl
    · rw [if_neg e, if_neg e]
  · show (at_ (st.set r' (hereM ms st (.give r' 0))) r).1 = _
    rw [at_set h]
    by_cases e : r' = r
    · rw [if_pos e, if_pos e]; rfl
    · rw [if_neg e, if_neg e]
theorem stand_other (ms : List Nat) {r : Nat} : ∀ (l : List Ask) (st : Stand), (∀ a ∈ l, a.2 < st.length ∧ a.2 ≠ r) → (at_ (standAfter ms st l) r).1 = (at_ st r).1
  | [], _, _ => rfl
  | a :: l, st, h => by
    obtain ⟨h1, h2⟩ := h a (List.mem_cons_self ..)
    show (at_ (standAfter ms (afterM ms st (askDeed a)) l) r).1 = _
    rw [stand_other ms l _ (fun b hb => by rw [after_len]; exact h b (List.mem_cons_of_mem _ hb)), after_at ms st a h1, if_neg h2]
theorem blk_ok (ms : List Nat) {r : Nat} (hr : r < ms.length) : ∀ (n : Nat) (st : Stand), st.length = ms.length → (at_ st r).1 = false → rowOkFrom ms st (blkM r n) = true ∧ (at_ (standAfter ms st (blkM r n)) r).1 = false
  | 0, st, hl, h => ⟨rfl, h⟩
  | n + 1, st, hl, h => by
    rw [blkM_succ]
    have h1 : (at_ (afterM ms st (askDeed (true, r))) r).1 = true := by
      rw [after_at ms st _ (by rw [hl]; exact hr), if_pos rfl]
    have hl1 : (afterM ms st (askDeed (true, r))).length = ms.length := by rw [after_len, hl]
    have h2 : (at_ (afterM ms (afterM ms st (askDeed (true, r))) (askDeed (false, r))) r).1 = false := by
      rw [after_at ms _ _ (by rw [hl1]; exact hr), if_pos rfl]
    obtain ⟨a, b⟩ := blk_ok ms hr n (afterM ms (afterM ms st (askDeed (true, r))) (askDeed (false, r))) (by rw [after_len, hl1]) h2
    refine ⟨?_, b⟩
    show (askOk ms st (true, r) && (askOk ms (afterM ms st (askDeed (true, r))) (false, r) && _)) = true
    have e1 : askOk ms st (true, r) = true := by
      unfold askOk
      rw [h]
      simp [hr]
    have e2 : askOk ms (afterM ms st (askDeed (true, r))) (false, r) = true := by
      unfold askOk
      rw [h1]
      simp [hr]
    rw [e1, e2, Bool.true_and, Bool.true_and]
    exact a
theorem rowFor_ok (ms : List Nat) {r : Nat} (hr : r < ms.length) (n : Nat) (st : Stand) (hl : st.length = ms.length) (h : (at_ st r).1 = false) : rowOkFrom ms st (rowFor r (n + 1)) = true := by
  rw [rowFor_eq, rowOk_app]
  obtain ⟨a, b⟩ := blk_ok ms hr n st hl h
  rw [a, Bool.true_and]
  show (askOk ms _ (true, r) && true) = true
  rw [Bool.and_true]
  unfold askOk
  rw [b]
  simp [hr]
theorem begun_at (ms : List Nat) (r : Nat) : at_ (begunM ms) r = (false, []) := by
  unfold at_ begunM
  rw [List.getD_eq_getElem?_getD, List.getElem?_replicate]
  split <;> rfl
end K20
end
section
set_option linter.all false
set_option maxRecDepth 100000
set_option maxHeartbeats 2000000
set_option autoImplicit false
namespace K20
open PySem PySem.Spec PyProof.Rows L2 LamX NdefX PySem.W
section
variable {nx : Nat → List Int → PyData} {ms : List Nat} {ts : List (Nat × Nat)} {k many n : Nat}
theorem s0_tags (r : Nat) : tagsOf (([], begunM ms) : List Deed × Stand).1 r = gvM nx r 0 := rfl
/-- the last asking's word, told by what came before -/
theorem led_last {g : Ldg} {pre : List Ask} {r : Nat} {s : List Deed × Stand} (h : (ledM g (pre ++ [(true, r)]) s).2 = "kept") : wordM g.ms g.ts g.k (runM g pre s).2 r (g.nx r (tagsOf (runM g pre s).1 r)) = "kept" := by
  have h2 := (led_app.mp h).2
  exact step_give.mp (led_cons.mp h2).1
theorem conf_some {a b : Nat} {xs ys : List Int} {row : List Ask} (h : conf a b xs ys = some row) : ∃ i, i < xs.length ∧ xs.getD i 0 ∈ ys ∧ row = rowFor a (i + 1) ++ rowFor b (ys.idxOf (xs.getD i 0) + 1) := by
  obtain ⟨i, hi, he⟩ := List.exists_of_findSome?_eq_some h
  split at he
  · rename_i hm
    exact ⟨i, List.mem_range.mp hi, hm, (Option.some.inj he).symm⟩
  · cases he
theorem blind_cases {row : List Ask} (h : blindM nx ms ts k many = some row) :
    (∃ r, r < ms.length ∧ (tagsR nx k (ms.getD r 0) r many []).2.isSome = true ∧ row = rowFor r ((tagsR nx k (ms.getD r 0) r many []).1.length + 1)) ∨
    ∃ p ∈ ts, conf p.1 p.2 (tagsR nx k (ms.getD p.1 0) p.1 many []).1 (tagsR nx k (ms.getD p.2 0) p.2 many []).1 = some row := by
  unfold blindM at h
  split at h
  · rename_i row' he
    cases h
    obtain ⟨r, hr, hh⟩ := List.exists_of_findSome?_eq_some he
    split at hh
    · rename_i hs
      exact .inl ⟨r, List.mem_range.mp hr, hs, (Option.some.inj hh).symm⟩
    · cases hh
  · obtain ⟨p, hp, hh⟩ := List.exists_of_findSome?_eq_some h
    exact .inr ⟨p, hp, hh⟩
theorem bad_some {r : Nat} (h : (tagsR nx k (ms.getD r 0) r many []).2.isSome = true) : ∃ e, (tagsR nx k (ms.getD r 0) r many []).1 = gvM nx r e ∧ e < many ∧ badM k (ms.getD r 0) (gvM nx r e) (nx r (gvM nx r e)) = true := by
  obtain ⟨e, h1, h2, h3⟩ := tagsR_of (nx := nx) (k := k) (mem := ms.getD r 0) (r := r) many
  rcases h3 with ⟨a, _⟩ | ⟨_, a, b⟩
  · rw [a] at h
    cases h
  · exact ⟨e, h1, a, b⟩
theorem blind_some (hw : WebOk ms ts) (hmany : many ≤ 60) {row : List Ask} (h : blindM nx ms ts k many = some row) :
    rowOk ms row = true ∧ (∀ r, row.count (true, r) ≤ many) ∧ (ledM ⟨n, nx, ms, ts, k⟩ row ([], begunM ms)).2 ≠ "kept" ∧ row.length ≤ 1000 := by
  have hb0 : ∀ r, (at_ (begunM ms) r).1 = false := fun r => by rw [begun_at]
  have hbl : (begunM ms).length = ms.length := List.length_replicate
  rcases blind_cases h with ⟨r, hr, hs, rfl⟩ | ⟨⟨a, b⟩, hp, hc⟩
  · obtain ⟨e, h1, h2, h3⟩ := bad_some hs
    rw [h1, gvM_len]
    refine ⟨rowFor_ok ms hr e _ hbl (hb0 r), fun r' => ?_, fun hk => ?_, by rw [rowFor_len _ _ (by omega)]; omega⟩
    · by_cases er : r = r'
      · subst er
        rw [rowFor_count]
        exact h2
      · rw [count_other (rowFor_room r e) er]
        exact Nat.zero_le _
    · rw [rowFor_eq] at hk
      have hword := led_last hk
      have hL : LInv ms (runM ⟨n, nx, ms, ts, k⟩ (blkM r e) ([], begunM ms)) := run_linv (g := ⟨n, nx, ms, ts, k⟩) (fun a ha => by rw [blk_room r e a ha]; exact hr) (linv_begun ms)
      have ht := run_tags (g := ⟨n, nx, ms, ts, k⟩) (blkM r e) ([], begunM ms) r 0 rfl
      rw [blk_count, Nat.zero_add] at ht
      refine bad_word (ts := ts) (k := k) (tag := nx r (gvM nx r e)) hL hr ?_ ?_
      · rw [ht]
        exact h3
      · rw [← ht]
        exact hword
  · obtain ⟨i, hi, hm, rfl⟩ := conf_some hc
    obtain ⟨t1, t2⟩ := hw.tie _ hp
    simp only at t1 t2 hi hm
    obtain ⟨e1, x1, x2, x3⟩ := tagsR_of (nx := nx) (k := k) (mem := ms.getD a 0) (r := a) many
    obtain ⟨e2, y1, y2, y3⟩ := tagsR_of (nx := nx) (k := k) (mem := ms.getD b 0) (r := b) many
    simp only [x1, y1] at hi hm ⊢
    rw [gvM_len] at hi
    have hle1 : e1 ≤ many := by rcases x3 with ⟨_, z⟩ | ⟨_, z, _⟩ <;> omega
    have hle2 : e2 ≤ many := by rcases y3 with ⟨_, z⟩ | ⟨_, z, _⟩ <;> omega
    rw [gvM_getD hi] at hm ⊢
    have hj := List.idxOf_lt_length_of_mem hm
    have hjv := List.getElem_idxOf hj
    generalize hx : tagI (nx a (gvM nx a i)) = x at hm hj hjv ⊢
    generalize (gvM nx b e2).idxOf x = j at hj hjv ⊢
    rw [gvM_len] at hj
    have hjx : tagI (nx b (gvM nx b j)) = x := by
      have := gvM_get (nx := nx) (r := b) hj
      rw [List.getElem?_eq_getElem (by rw [gvM_len]; exact hj)] at this
      rw [← Option.some.inj this]
      exact hjv
    have ha : a < ms.length := by omega
    have hra : ∀ z ∈ rowFor a (i + 1), z.2 < ms.length ∧ z.2 ≠ b := fun z hz => by
      rw [rowFor_room a i z hz]
      omega
    refine ⟨?_, fun r' => ?_, fun hk => ?_, ?_⟩
    · unfold rowOk
      rw [rowOk_app, rowFor_ok ms ha i _ hbl (hb0 a), Bool.true_and]
      refine rowFor_ok ms t2 j _ (by rw [standAfter_len, hbl]) ?_
      rw [stand_other ms _ _ (fun z hz => by rw [hbl]; exact hra z hz)]
      exact hb0 b
    · rw [List.count_append]
      by_cases er : a = r'
      · subst er
        rw [rowFor_count, count_other (rowFor_room b j) (by omega)]
        omega
      · rw [count_other (rowFor_room a i) er]
        by_cases er2 : b = r'
        · subst er2
          rw [rowFor_count]
          omega
        · rw [count_other (rowFor_room b j) er2]
          omega
    · rw [rowFor_eq b j, ← List.append_assoc] at hk
      have hword := led_last hk
      have hrm : ∀ z ∈ rowFor a (i + 1) ++ blkM b j, z.2 < ms.length := fun z hz => by
        rcases List.mem_append.mp hz with hz | hz
        · exact (hra z hz).1
        · rw [blk_room b j z hz]
          exact t2
      have hL : LInv ms (runM ⟨n, nx, ms, ts, k⟩ (rowFor a (i + 1) ++ blkM b j) ([], begunM ms)) := run_linv (g := ⟨n, nx, ms, ts, k⟩) hrm (linv_begun ms)
      have htb := run_tags (g := ⟨n, nx, ms, ts, k⟩) (rowFor a (i + 1) ++ blkM b j) ([], begunM ms) b 0 rfl
      have hta := run_tags (g := ⟨n, nx, ms, ts, k⟩) (rowFor a (i + 1) ++ blkM b j) ([], begunM ms) a 0 rfl
      rw [List.count_append, count_other (rowFor_room a i) (by omega), blk_count, Nat.zero_add, Nat.zero_add] at htb
      rw [List.count_append, rowFor_count, count_other (blk_room b j) (by omega), Nat.zero_add, Nat.add_zero] at hta
      have hheld : (at_ (runM ⟨n, nx, ms, ts, k⟩ (rowFor a (i + 1) ++ blkM b j) ([], begunM ms)).2 a).1 = true := by
        rw [runM_app]
        have hL1 : LInv ms (runM ⟨n, nx, ms, ts, k⟩ (rowFor a (i + 1)) ([], begunM ms)) := run_linv (g := ⟨n, nx, ms, ts, k⟩) (fun z hz => (hra z hz).1) (linv_begun ms)
        rw [run_other (g := ⟨n, nx, ms, ts, k⟩) (fun z hz => by rw [blk_room b j z hz]; exact ⟨t2, by omega⟩) hL1.len, rowFor_eq, runM_app]
        have hL2 : LInv ms (runM ⟨n, nx, ms, ts, k⟩ (blkM a i) ([], begunM ms)) := run_linv (g := ⟨n, nx, ms, ts, k⟩) (fun z hz => by rw [blk_room a i z hz]; exact ha) (linv_begun ms)
        have := dn_at (g := ⟨n, nx, ms, ts, k⟩) (a := (true, a)) hL2.len ha a
        rw [if_pos rfl] at this
        exact this
      have hbad := y2 j hj
      have hnx : nx b (gvM nx b j) = .int x := by
        unfold badM at hbad
        rw [Bool.or_eq_false_iff] at hbad
        cases hz : nx b (gvM nx b j) with
        | int t =>
          rw [hz] at hjx
          rw [← hjx]
          rfl
        | none => rw [hz] at hbad; cases hbad.1
        | bool _ => rw [hz] at hbad; cases hbad.1
        | str _ => rw [hz] at hbad; cases hbad.1
        | list _ => rw [hz] at hbad; cases hbad.1
        | tuple _ => rw [hz] at hbad; cases hbad.1
        | dict _ => rw [hz] at hbad; cases hbad.1
      refine barred_word (ts := ts) (k := k) (t := x) hL t2 ?_ ?_
      · unfold shownM
        refine List.mem_map.mpr ⟨a, List.mem_filter.mpr ⟨List.mem_range.mpr ha, ?_⟩, ?_⟩
        · rw [hheld, Bool.and_true]
          unfold tied
          rw [decide_eq_true hp, Bool.or_true]
        · rw [hta]
          show lastT (gvM nx a i ++ [_]) = x
          unfold lastT
          rw [List.getLastD_concat, hx]
      · rw [← hnx, ← htb]
        exact hword
    · rw [List.length_append, rowFor_len _ _ (by omega), rowFor_len _ _ (by omega)]
      omega
/-! ### none just if -/
theorem conf_isSome (a b : Nat) (xs ys : List Int) : (conf a b xs ys).isSome = xs.any fun t => decide (t ∈ ys) := by
  rw [Bool.eq_iff_iff]
  constructor
  · intro h
    obtain ⟨row, hr⟩ := Option.isSome_iff_exists.mp h
    obtain ⟨i, hi, hm, _⟩ := conf_some hr
    refine List.any_eq_true.mpr ⟨xs.getD i 0, ?_, decide_eq_true hm⟩
    rw [List.getD_eq_getElem?_getD, List.getElem?_eq_getElem hi]
    exact List.getElem_mem ..
  · intro h
    obtain ⟨t, ht, hm⟩ := List.any_eq_true.mp h
    obtain ⟨i, hi, rfl⟩ := List.getElem_of_mem ht
    cases hc : conf a b xs ys with
    | some _ => rfl
    | none =>
      have := List.findSome?_eq_none_iff.mp hc i (List.mem_range.mpr hi)
      rw [List.getD_eq_getElem?_getD, List.getElem?_eq_getElem hi, Option.getD_some, if_pos (of_decide_eq_true hm)] at this
      cases this
theorem blind_falls : (blindM nx ms ts k many).isSome = fallsM ms ts fun r => tagsR nx k (ms.getD r 0) r many [] := by
  rw [Bool.eq_iff_iff]
  unfold fallsM
  rw [Bool.or_eq_true]
  constructor
  · intro h
    obtain ⟨row, hr⟩ := Option.isSome_iff_exists.mp h
    rcases blind_cases hr with ⟨r, h1, h2, _⟩ | ⟨p, hp, hc⟩
    · exact .inl (List.any_eq_true.mpr ⟨r, List.mem_range.mpr h1, h2⟩)
    · refine .inr (List.any_eq_true.mpr ⟨p, hp, ?_⟩)
      have := conf_isSome p.1 p.2 (tagsR nx k (ms.getD p.1 0) p.1 many []).1 (tagsR nx k (ms.getD p.2 0) p.2 many []).1
      rw [hc] at this
      exact this.symm
  · intro h
    unfold blindM
    cases hf : (List.range ms.length).findSome? (fun r => if (tagsR nx k (ms.getD r 0) r many []).2.isSome = true then some (rowFor r ((tagsR nx k (ms.getD r 0) r many []).1.length + 1)) else none) with
    | some row => rfl
    | none =>
      simp only
      rcases h with h | h
      · obtain ⟨r, hr, hh⟩ := List.any_eq_true.mp h
        have := List.findSome?_eq_none_iff.mp hf r hr
        rw [if_pos hh] at this
        cases this
      · obtain ⟨p, hp, hh⟩ := List.any_eq_true.mp h
        cases hg : ts.findSome? fun p => conf p.1 p.2 (tagsR nx k (ms.getD p.1 0) p.1 many []).1 (tagsR nx k (ms.getD p.2 0) p.2 many []).1 with
        | some _ => rfl
        | none =>
          have h1 := List.findSome?_eq_none_iff.mp hg p hp
          have h2 := conf_isSome p.1 p.2 (tagsR nx k (ms.getD p.1 0) p.1 many []).1 (tagsR nx k (ms.getD p.2 0) p.2 many []).1
          rw [h1, hh] at h2
          cases h2
theorem blind_none_room (h : blindM nx ms ts k many = none) {r : Nat} (hr : r < ms.length) : (tagsR nx k (ms.getD r 0) r many []).2 = none := by
  unfold blindM at h
  split at h
  · cases h
  · rename_i hf
    have := List.findSome?_eq_none_iff.mp hf r (List.mem_range.mpr hr)
    cases hz : (tagsR nx k (ms.getD r 0) r many []).2 with
    | none => rfl
    | some x =>
      rw [hz] at this
      cases this
/-- memory and 1 of them at least, none in common -/
theorem blind_sizes (h : blindM nx ms ts k many = none) {r : Nat} (hr : r < ms.length) : ∃ l : List Int, l.Nodup ∧ (∀ x ∈ l, x ∈ (tagsR nx k (ms.getD r 0) r many []).1) ∧ l.length = min many (ms.getD r 0 + 1) := by
  have h0 := blind_none_room h hr
  obtain ⟨e, h1, h2, h3⟩ := tagsR_of (nx := nx) (k := k) (mem := ms.getD r 0) (r := r) many
  rw [h0] at h3
  obtain rfl : e = many := by
    rcases h3 with ⟨_, z⟩ | ⟨z, _⟩
    · exact z
    · cases z
  rw [h1]
  refine ⟨(gvM nx r e).drop (e - min e (ms.getD r 0 + 1)), ?_, fun x hx => List.mem_of_mem_drop hx, ?_⟩
  · unfold List.Nodup
    rw [List.pairwise_iff_getElem]
    intro i j hi hj hij
    rw [List.length_drop, gvM_len] at hi hj
    rw [List.getElem_drop, List.getElem_drop]
    intro heq
    replace heq := congrArg some heq
    rw [← List.getElem?_eq_getElem, ← List.getElem?_eq_getElem] at heq
    have hbad := h2 (e - min e (ms.getD r 0 + 1) + j) (by omega)
    generalize hjj : e - min e (ms.getD r 0 + 1) + j = jj at hbad heq
    generalize hii : e - min e (ms.getD r 0 + 1) + i = ii at heq
    have hjl : jj < e := by omega
    have hil : ii < jj := by omega
    have ej := gvM_get (nx := nx) (r := r) hjl
    unfold badM at hbad
    rw [Bool.or_eq_false_iff] at hbad
    cases hz : nx r (gvM nx r jj) with
    | int t =>
      rw [hz] at hbad ej
      refine of_decide_eq_false hbad.2 ?_
      rw [gvM_len]
      have eii : (gvM nx r jj)[ii]? = some t := by
        rw [← gvM_take (nx := nx) (r := r) (c := e) (j := jj) (by omega), List.getElem?_take, if_pos hil, heq, ej]
        rfl
      refine List.mem_of_getElem? (i := ii - (jj - min jj (ms.getD r 0))) ?_
      rw [List.getElem?_drop, show jj - min jj (ms.getD r 0) + (ii - (jj - min jj (ms.getD r 0))) = ii by omega]
      exact eii
    | none => rw [hz] at hbad; cases hbad.1
    | bool _ => rw [hz] at hbad; cases hbad.1
    | str _ => rw [hz] at hbad; cases hbad.1
    | list _ => rw [hz] at hbad; cases hbad.1
    | tuple _ => rw [hz] at hbad; cases hbad.1
    | dict _ => rw [hz] at hbad; cases hbad.1
  · rw [List.length_drop, gvM_len]
    omega
end
/-! ### a dyeing in turn -/
section
variable {ms : List Nat} {ts : List (Nat × Nat)} {k many n : Nat} {ds : List (List Int)}
theorem dy_mem (hd : DyOk ms ts k ds) {r : Nat} (hr : r < ms.length) (j : Nat) : (ds.getD r [])[j % (ms.getD r 0 + 1)]? = some ((ds.getD r []).getD (j % (ms.getD r 0 + 1)) 0) ∧ (ds.getD r []).getD (j % (ms.getD r 0 + 1)) 0 ∈ ds.getD r [] := by
  have hl := (hd.lot r hr).1
  have hlt : j % (ms.getD r 0 + 1) < (ds.getD r []).length := by
    rw [hl]
    exact Nat.mod_lt _ (Nat.succ_pos _)
  have e : (ds.getD r [])[j % (ms.getD r 0 + 1)]? = some ((ds.getD r []).getD (j % (ms.getD r 0 + 1)) 0) := by
    rw [List.getD_eq_getElem?_getD (l := ds.getD r []), List.getElem?_eq_getElem hlt]
    rfl
  exact ⟨e, List.mem_of_getElem? e⟩
theorem dy_next (hd : DyOk ms ts k ds) {r : Nat} (hr : r < ms.length) (c : Nat) : nextM ds none r (gvM (nextM ds none) r c) = .int ((ds.getD r []).getD (c % (ms.getD r 0 + 1)) 0) := by
  show turnM ds r _ = _
  unfold turnM
  rw [gvM_len, (hd.lot r hr).1]
theorem dy_bad (hd : DyOk ms ts k ds) {r : Nat} (hr : r < ms.length) (c : Nat) : badM k (ms.getD r 0) (gvM (nextM ds none) r c) (nextM ds none r (gvM (nextM ds none) r c)) = false := by
  rw [dy_next hd hr]
  obtain ⟨e1, m1⟩ := dy_mem hd hr c
  obtain ⟨hl, hnd, hrg⟩ := hd.lot r hr
  obtain ⟨b1, b2⟩ := hrg _ m1
  unfold badM
  rw [Bool.or_eq_false_iff]
  refine ⟨?_, decide_eq_false fun hm => ?_⟩
  · show (!(decide (0 ≤ _) && decide (_ < (k : Int)))) = false
    rw [decide_eq_true b1, decide_eq_true b2]
    rfl
  · rw [gvM_len] at hm
    obtain ⟨i, hi, he⟩ := List.getElem_of_mem hm
    rw [List.length_drop, gvM_len] at hi
    replace he := congrArg some he
    rw [List.getElem_drop, ← List.getElem?_eq_getElem] at he
    have hlt : c - min c (ms.getD r 0) + i < c := by omega
    have hge : c - (c - min c (ms.getD r 0) + i) ≤ ms.getD r 0 := by omega
    generalize c - min c (ms.getD r 0) + i = a at he hlt hge
    have ea := gvM_get (nx := nextM ds none) (r := r) hlt
    rw [he, dy_next hd hr] at ea
    have ea := Option.some.inj ea
    obtain ⟨e2, _⟩ := dy_mem hd hr a
    have : (ds.getD r [])[c % (ms.getD r 0 + 1)]? = (ds.getD r [])[a % (ms.getD r 0 + 1)]? := by
      rw [e1, e2]
      exact congrArg some ea
    have hlc : c % (ms.getD r 0 + 1) < (ds.getD r []).length := by
      rw [hl]
      exact Nat.mod_lt _ (Nat.succ_pos _)
    have hmod := (List.getElem?_inj hlc hnd).mp this
    have := Nat.sub_mod_eq_zero_of_mod_eq hmod
    rw [Nat.mod_eq_of_lt (by omega)] at this
    omega
theorem dy_all (hd : DyOk ms ts k ds) {r : Nat} (hr : r < ms.length) {c : Nat} {x : Int} (h : x ∈ gvM (nextM ds none) r c) : x ∈ ds.getD r [] := by
  obtain ⟨i, hi, rfl⟩ := List.getElem_of_mem h
  rw [gvM_len] at hi
  have ea := gvM_get (nx := nextM ds none) (r := r) hi
  rw [List.getElem?_eq_getElem (by rw [gvM_len]; exact hi), dy_next hd hr] at ea
  rw [Option.some.inj ea]
  exact (dy_mem hd hr i).2
theorem dy_led (hw : WebOk ms ts) (hd : DyOk ms ts k ds) : ∀ (row : List Ask) (s : List Deed × Stand), (∀ a ∈ row, a.2 < ms.length) → LInv ms s → (∀ r, r < ms.length → ∃ c, tagsOf s.1 r = gvM (nextM ds none) r c) → (ledM ⟨n, nextM ds none, ms, ts, k⟩ row s).2 = "kept"
  | [], _, _, _, _ => rfl
  | (b, r) :: as, s, hr, hL, ht => by
    have hr0 := hr (b, r) (List.mem_cons_self ..)
    refine led_cons.mpr ⟨?_, dy_led hw hd as _ (fun a ha => hr a (List.mem_cons_of_mem _ ha)) (linv_dn (ms := ms) hL _ (by rw [room_deedM]; exact hr0)) fun r' hr' => ?_⟩
    · cases b with
      | false => rfl
      | true =>
        rw [step_give]
        obtain ⟨c, hc⟩ := ht r hr0
        show wordM ms ts k s.2 r (nextM ds none r (tagsOf s.1 r)) = "kept"
        refine good_word hL hr0 (by rw [hc]; exact dy_bad hd hr0 c) fun hm => ?_
        rw [hc, dy_next hd hr0] at hm
        have m1 := (dy_mem hd hr0 c).2
        obtain ⟨o, ho, hl⟩ := List.mem_map.mp hm
        obtain ⟨ho1, ho2⟩ := List.mem_filter.mp ho
        rw [Bool.and_eq_true] at ho2
        have hol := List.mem_range.mp ho1
        obtain ⟨c', hc'⟩ := ht o hol
        have hne := hL.held o hol ho2.2
        rw [hc'] at hne hl
        cases c' with
        | zero => exact hne rfl
        | succ c' =>
          have hlast : lastT (gvM (nextM ds none) o (c' + 1)) ∈ ds.getD o [] := by
            refine dy_all hd hol (c := c' + 1) ?_
            show lastT (gvM (nextM ds none) o c' ++ [_]) ∈ gvM (nextM ds none) o c' ++ [_]
            unfold lastT
            rw [List.getLastD_concat]
            exact List.mem_append_right _ (List.mem_singleton.mpr rfl)
          rw [hl] at hlast
          have ht2 := ho2.1
          unfold tied at ht2
          rw [Bool.or_eq_true] at ht2
          rcases ht2 with z | z
          · exact hd.apart (r, o) (of_decide_eq_true z) _ m1 hlast
          · exact hd.apart (o, r) (of_decide_eq_true z) _ hlast m1
    · obtain ⟨c, hc⟩ := ht r' hr'
      exact ⟨_, tags_dn ⟨n, nextM ds none, ms, ts, k⟩ s (b, r) r' c hc⟩
theorem dy_kept (hw : WebOk ms ts) (hd : DyOk ms ts k ds) {row : List Ask} (hr : ∀ a ∈ row, a.2 < ms.length) : (ledM ⟨n, nextM ds none, ms, ts, k⟩ row ([], begunM ms)).2 = "kept" :=
  dy_led hw hd row _ hr (linv_begun ms) fun r _ => ⟨0, rfl⟩
theorem dy_blind (hw : WebOk ms ts) (hd : DyOk ms ts k ds) : blindM (nextM ds none) ms ts k many = none := by
  have hsp : ∀ r, r < ms.length → (tagsR (nextM ds none) k (ms.getD r 0) r many []).2.isSome = false ∧ ∃ e, (tagsR (nextM ds none) k (ms.getD r 0) r many []).1 = gvM (nextM ds none) r e := fun r hr => by
    obtain ⟨e, h1, h2, h3⟩ := tagsR_of (nx := nextM ds none) (k := k) (mem := ms.getD r 0) (r := r) many
    rcases h3 with ⟨a, _⟩ | ⟨_, _, b⟩
    · exact ⟨by rw [a]; rfl, e, h1⟩
    · rw [dy_bad hd hr e] at b
      cases b
  cases h : blindM (nextM ds none) ms ts k many with
  | none => rfl
  | some row =>
    exfalso
    rcases blind_cases h with ⟨r, hr, hs, _⟩ | ⟨⟨a, b⟩, hp, hc⟩
    · rw [(hsp r hr).1] at hs
      cases hs
    · obtain ⟨t1, t2⟩ := hw.tie _ hp
      simp only at t1 t2
      obtain ⟨i, hi, hm, _⟩ := conf_some hc
      obtain ⟨_, e1, x1⟩ := hsp a (by omega)
      obtain ⟨_, e2, x2⟩ := hsp b t2
      simp only [x1, x2] at hi hm
      have h1 : (gvM (nextM ds none) a e1).getD i 0 ∈ gvM (nextM ds none) a e1 := by
        rw [List.getD_eq_getElem?_getD, List.getElem?_eq_getElem hi]
        exact List.getElem_mem ..
      exact hd.apart (a, b) hp _ (dy_all hd (by omega) h1) (dy_all hd t2 hm)
end
end K20
end
section
set_option linter.all false
set_option maxRecDepth 100000
set_option maxHeartbeats 2000000
set_option autoImplicit false
namespace K20
open PySem PySem.Spec PyProof.Rows L2 LamX NdefX PySem.W
/-! ### answers that can be compared -/
theorem dDeed_lay (d : Deed) : (dDeed d).canLay0 = true := by
  have h1 : PyData.strOk (word true) = true := by decide +kernel
  have h2 : PyData.strOk (word false) = true := by decide +kernel
  cases d <;> simp [dDeed, PyData.canLay0, PyData.canLayAll0, h1, h2]
theorem word_ok (ms : List Nat) (ts : List (Nat × Nat)) (k : Nat) (st : Stand) (r : Nat) (tag : PyData) : PyData.strOk (wordM ms ts k st r tag) = true := by
  unfold wordM
  split
  · decide +kernel
  · split
    · decide +kernel
    · split <;> decide +kernel
  · decide +kernel
theorem step_word (g : Ldg) (s : List Deed × Stand) (a : Ask) : PyData.strOk (stepM g s a).1 = true := by
  unfold stepM
  split
  · show PyData.strOk ("kept" : Str) = true
    decide +kernel
  · split <;> exact word_ok ..
theorem led_word (g : Ldg) : ∀ (row : List Ask) (s : List Deed × Stand), PyData.strOk (ledM g row s).2 = true
  | [], _ => by
    show PyData.strOk ("kept" : Str) = true
    decide +kernel
  | a :: as, s => by
    rw [ledM_cons]
    split
    · exact led_word g as _
    · exact step_word g s a
theorem dDeed_depth (d : Deed) : (dDeed d).depth = 1 := by cases d <;> simp [dDeed, PyData.depth, PyData.depthAll]
theorem led_shaped (l : List Deed) (s : Str) (hs : PyData.strOk s = true) : SeqAt.shaped (.tuple [dDeeds l, .str s]) = true := by
  have h1 : (dDeeds l).canLay0 = true := by
    show PyData.canLayAll0 (l.map dDeed) = true
    exact lay_all fun d hd => by
      obtain ⟨p, _, rfl⟩ := List.mem_map.mp hd
      exact dDeed_lay p
  have h2 : (dDeeds l).depth ≤ 2 := by
    have h1 : PyData.depthAll (l.map dDeed) ≤ 1 := depth_all fun d hd => by
      obtain ⟨p, _, rfl⟩ := List.mem_map.mp hd
      rw [dDeed_depth]
      exact Nat.le_refl _
    unfold dDeeds
    simp only [PyData.depth]
    omega
  refine shaped_of ?_ ?_
  · simp [PyData.canLay0, PyData.canLayAll0, h1, hs]
  · simp only [PyData.depth, PyData.depthAll]
    omega
section
variable {m : Md} {K : PySem.W.Frag} {σ : L2.St} {H H' : Hp} {ta tb te tx tl : TE} {tA : TA} {tt : TT} {x y z v : V} {r r1 r2 : Dx} {a b c : PyData}
/-- [.. for x, y in zip(a list, a tuple)] -/
theorem es_lcZ {vs : List Nat} {i j : Nat} {ds es : List PyData} (Acc : Nat → List PyData → Prop) (h : EvA m K tA σ H [.d (.list ds), .d (.tuple es)]) (hl : ds.length = es.length) (hz : ds.length ≤ 40000) (h0 : Acc 0 [])
    (hw : ∀ x y, wipe (((wipe σ vs).set i (some x)).set j (some y)) vs = wipe σ vs)
    (hs : ∀ m' H' n d e x y ys, ds[n]? = some d → es[n]? = some e → Into m m' K H H' → Is m' K H' x (.d d) → Is m' K H' y (.d e) → Acc n ys → TurnOk m' K tt te (((wipe σ vs).set i (some x)).set j (some y)) H' (fun o => Acc (n + 1) (optA ys o))) :
    EvS m K (tLc (iZipLT K tA) (gTup K 2 (gCons (gName i) (gCons (gName j) gNil))) tt te vs) σ H (fun r => ∃ ys, r = .tl ys ∧ Acc ds.length ys) := fun H0 e0 Q q => h H0 e0 _ fun ws H1 e1 i1 => by
  obtain ⟨v, v2, rfl, ia, ib⟩ := isAll2 i1
  obtain ⟨p, xs, rfl, g1, g2⟩ := dp_lst ia
  obtain ⟨p', xs', rfl, g3, g4⟩ := dp_tup ib
  have el := dpAll_len g2
  have el' := dpAll_len g4
  refine ⟨p, p', xs, xs', rfl, sqL_mono vw_same g1, sqT_mono vw_same g3, fun D hD => ?_⟩
  refine lc20 (m := m) (K := K) (walk_zipLT (xs := xs) (ys := xs') (by omega)) (by rw [el]; exact hz) e1.ok Acc h0 (fun H' s => ⟨sqL_mono s g1, sqT_mono s g3⟩) (fun m' H' H'' n v ys hi I y a Q2 q2 => ?_) (fun D H' ys r a i => q _ _ H' (R.trans e1 r) ⟨ys, rfl, by rw [← el]; exact a⟩ i) D hD
  obtain ⟨T, x, y, rfl, hT, rfl, hx, hy⟩ := y
  obtain ⟨d, hd1, hd2⟩ := dpAll_get g2 hx
  obtain ⟨e, he1, he2⟩ := dpAll_get g4 hy
  have rr : m'.R H' (upd H' T (.tup [x, y])) := R.new I.ok hT
  have e01 := R.trans e0 e1
  exact ⟨T, _, rfl, .inl (.inl upd_same), rfl, _, _, rfl, _, _, rfl, rfl, q2 _ rr (hw x y) (hs m' _ n d e x y ys hd1 he1 ⟨rr.ok, fun v d h => (I.is v d (h.mono e01)).mono rr, fun p hp => ⟨(I.lo p hp).1, ((R.lo rr (I.lo p hp).1).trans (I.lo p hp).2).trans (R.lo e01 hp)⟩⟩ ((I.is x (.d d) hd2).mono rr) ((I.is y (.d e) he2).mono rr) a)⟩
/-- x is not True -/
abbrev rNotBl : R2 := fun x y H Q => ∃ a b, x = .bl a ∧ y = .bl b ∧ Q (.bl (!decide (a = b))) H
theorem ev_isNotB {i j : Bool} (ha : EvD m K ta σ H (.d (.bool i))) (hb : EvD m K tb σ H (.d (.bool j))) : EvD m K (tOp rNotBl ta tb) σ H (.d (.bool (!decide (i = j)))) := ev_opG ha hb fun x y H1 e i1 i2 Q q => by
  rw [dp_bl i1, dp_bl i2]
  exact ⟨i, j, rfl, rfl, q _ H1 (R.refl e.ok) (.bl _)⟩
/-- a <= b, the right told by a relation, the answer known -/
theorem ev_leS {i : Int} {S : Dx → Prop} (ha : EvS m K ta σ H S) (hb : EvD m K tb σ H (.d (.int i))) (hS : ∀ r, S r → ∃ j : Int, r = .d (.int j) ∧ i ≤ j) : EvD m K (tOp (rI0 fun i j => .bl (decide (j ≤ i))) ta tb) σ H (.d (.bool true)) := fun H1 e Q q =>
  ha H1 e _ fun r x H2 e2 hs i2 => hb H2 (R.trans e e2) _ fun y H3 e3 i3 => by
    obtain ⟨j, rfl, hj⟩ := hS r hs
    refine ⟨j, i, dp_int (i2 : Dp K (m.vw H2) x (.int j)), dp_int (i3 : Dp K (m.vw H3) y (.int i)), q _ H3 (R.trans e2 e3) ?_⟩
    show Is m K H3 (V.bl (decide (i ≤ j))) _
    rw [decide_eq_true hj]
    exact .bl _
end
end K20
end
section
set_option linter.all false
set_option maxRecDepth 100000
set_option maxHeartbeats 2000000
set_option autoImplicit false
namespace K20
open PySem PySem.Spec PyProof.Rows L2 LamX NdefX PySem.W
section
variable {P : Program} {w : World} {K : PySem.W.Frag} {mg : Str → Option Value} {base : Heap}
/-! ### dyeing -/
abbrev spDyeing (K : PySem.W.Frag) : Sp := SpP K (fun a : Wb × Nat => [.web a.1.1 a.1.2, .d (.int (a.2 : Int))]) (fun a => WebOk a.1.1 a.1.2 ∧ 1 ≤ a.2 ∧ a.2 ≤ 10) (fun a r => ∃ dy : Option (List (List Int)), r = .d (dDyes dy) ∧ ∀ ds, dy = some ds → DyOk a.1.1 a.1.2 a.2 ds)
theorem sc_dyeing : FnScope ["web", "k"] ["web", "k"] (defScope s_dyeing) := ⟨rfl, rfl, rfl, by decide +kernel, rfl, by decide +kernel, by decide +kernel⟩
theorem ok_dyeing (T : Top K mg) : Cal P w K mg base 5 "dyeing" ["web", "k"] (spDyeing K) := by
  have G := T.G
  refine T.d_dyeing.cal sc_dyeing (fun _ _ _ _ _ _ us hl => match us, hl with | [_, _], _ => rfl) (fun _ => rfl) (fun f cdv A outer s H0 E hr => ?_)
  refine ⟨_, (pss_cons (ps_expr (pe_cal (ok_check_tags T) (hr.mono (by decide)) (by rfl) (pa_cons (pv 1) pa_nil)))
    (pss_cons (ps_expr (pe_cal (ok_check_few_needs T) (hr.mono (by decide)) (by rfl) (pa_cons (pv 0) pa_nil)))
    (pss_one (ps_ret (pe_cal (ok_raw_dyeing T) (hr.mono (by decide)) (by rfl) (pa_cons (pv 0) (pa_cons (pv 1) pa_nil))))))), ?_⟩
  intro m ⟨⟨ms, ts⟩, k'⟩ H vs Q k i0 ⟨hw, h1, h10⟩ q
  obtain ⟨v, v2, rfl, i1, i2⟩ := isAll2 (show IsAll m K H vs [.web ms ts, .d (.int (k' : Int))] from i0)
  simp only at hw h1 h10
  replace q : ∀ r v H', m.R H H' → (∃ dy : Option (List (List Int)), r = .d (dDyes dy) ∧ ∀ ds, dy = some ds → DyOk ms ts k' ds) → Is m K H' v r → Q v H' := q
  refine q_drop k (ev_call (x := PyData.int (k' : Int)) (ea_cons (ev_var rfl i2) ea_nil) (within_ok (by omega) (by omega))) fun H1 e1 => ?_
  refine q_drop e1.ok (ev_call (x := (ms, ts)) (ea_cons (ev_var rfl (i1.mono e1)) ea_nil) hw) fun H2 e2 => ?_
  have e02 := R.trans e1 e2
  exact s_retS e02.ok (es_call (x := ((ms, ts), k')) (ea_cons (ev_var rfl (i1.mono e02)) (ea_cons (ev_var rfl (i2.mono e02)) ea_nil)) ⟨hw, h10⟩) fun r v H3 e3 hr j => q r v H3 (R.trans e02 e3) hr j
end
end K20
end
section
set_option linter.all false
set_option maxRecDepth 100000
set_option maxHeartbeats 2000000
set_option autoImplicit false
namespace K20
open PySem PySem.Spec PyProof.Rows L2 LamX NdefX PySem.W
theorem led_lay (g : Ldg) (row : List Ask) (s : List Deed × Stand) : SeqAt.shaped (.tuple [dDeeds (ledM g row s).1, .str (ledM g row s).2]) = true := led_shaped _ _ (led_word g row s)
theorem led_refl (l : List Deed) (s : Str) (hs : PyData.strOk s = true) : PyData.eqv (.tuple [dDeeds l, .str s]) (.tuple [dDeeds l, .str s]) = true := by
  refine SeqAt.eqv_refl _ ?_
  have h1 : (dDeeds l).canLay0 = true := by
    show PyData.canLayAll0 (l.map dDeed) = true
    exact lay_all fun d hd => by
      obtain ⟨p, _, rfl⟩ := List.mem_map.mp hd
      exact dDeed_lay p
  simp [PyData.canLay0, PyData.canLayAll0, h1, hs]
theorem ask_plain (a : Ask) : (dAsk a).plain = true ∧ (dAsk a).depth ≤ 64 := by
  unfold dAsk
  simp [PyData.plain, PyData.plainAll, PyData.depth, PyData.depthAll]
theorem asks_plain : ∀ l : List Ask, PyData.plainAll (l.map dAsk) = true
  | [] => by simp [PyData.plainAll]
  | a :: l => by
    rw [List.map_cons]
    simp [PyData.plainAll, (ask_plain a).1, asks_plain l]
theorem word_inj {a b : Bool} (h : word a = word b) : a = b := by
  cases a <;> cases b
  · rfl
  · exact absurd h (by decide +kernel)
  · exact absurd h (by decide +kernel)
  · rfl
theorem ask_eqv (a b : Ask) : PyData.eqv (dAsk a) (dAsk b) = (a == b) := by
  obtain ⟨a1, a2⟩ := a
  obtain ⟨b1, b2⟩ := b
  have e : PyData.eqv (dAsk (a1, a2)) (dAsk (b1, b2)) = ((word a1 == word b1) && (((a2 : Int) == (b2 : Int)) && true)) := by
    simp [dAsk, PyData.eqv, PyData.eqvAll]
  rw [e, Bool.and_true]
  by_cases h1 : a1 = b1
  · by_cases h2 : a2 = b2
    · subst h1 h2
      simp
    · rw [show ((a2 : Int) == (b2 : Int)) = false by rw [beq_eq_false_iff_ne]; omega, Bool.and_false]
      rw [eq_comm, beq_eq_false_iff_ne]
      intro z
      cases z
      exact h2 rfl
  · rw [show (word a1 == word b1) = false from beq_eq_false_iff_ne.mpr fun z => h1 (word_inj z), Bool.false_and]
    rw [eq_comm, beq_eq_false_iff_ne]
    intro z
    cases z
    exact h1 rfl
theorem asks_count (a : Ask) (l : List Ask) : ((l.map dAsk).countP fun z => PyData.eqv z (dAsk a)) = l.count a := by
  rw [List.countP_map]
  unfold List.count
  refine List.countP_congr fun x _ => ?_
  show (PyData.eqv (dAsk x) (dAsk a)) = true ↔ _
  rw [ask_eqv]
section
variable {m : Md} {K : PySem.W.Frag} {σ : L2.St} {H : Hp} {te : TE}
theorem EvS.d {S : Dx → Prop} {r0 : Dx} (h : EvS m K te σ H S) (hS : ∀ r, S r → r = r0) : EvD m K te σ H r0 := fun H1 e Q q => h H1 e Q fun r v H2 e2 hs i => q v H2 e2 (by rw [← hS r hs]; exact i)
end
theorem dy_rows {ms : List Nat} {ts : List (Nat × Nat)} {k : Nat} {ds : List (List Int)} (h : DyOk ms ts k ds) : RowsOk ms.length ds := by
  refine ⟨by rw [h.len]; exact Nat.le_refl _, fun t ht e => ?_⟩
  obtain ⟨i, hi, rfl⟩ := List.getElem_of_mem ht
  have := (h.lot i (by rw [← h.len]; exact hi)).1
  rw [List.getD_eq_getElem?_getD, List.getElem?_eq_getElem hi, Option.getD_some, e] at this
  simp at this
end K20
end
section
set_option linter.all false
set_option maxRecDepth 100000
set_option maxHeartbeats 2000000
set_option autoImplicit false
namespace K20
open PySem PySem.Spec PyProof.Rows L2 LamX NdefX PySem.W
section
variable {P : Program} {w : World} {K : PySem.W.Frag} {mg : Str → Option Value} {base : Heap} {P1 P2 P3 : Addr}
/-! ### _law_blind_right -/
def spBlindRight (K : PySem.W.Frag) (P1 P2 P3 : Addr) : Sp := fun vs H Q _ => ∃ (m : Md) (ms : List Nat) (ts : List (Nat × Nat)) (k : Nat) (tn : List (List Int)) (late : Late), m.ok H ∧ m.T = T20 P1 P2 P3 ∧ IsAll m K H vs [.hand, .d (dSpec ms ts), .web ms ts, .d (.int (k : Int)), .d (.list (tn.map dInts)), .d (dLate late)] ∧
  WebOk ms ts ∧ 1 ≤ k ∧ k ≤ 200 ∧ RowsOk ms.length tn ∧ ∀ v H', m.R H H' → Is m K H' v (.d (.bool true)) → Q v H'
theorem sc_law_blind_right : FnScope ["_law_hand_here", "_law_spec_here", "_law_web", "_law_k", "_law_turns_here", "_law_late_here", "_law_many", "_law_keeper", "_law_told", "_law_row_here", "_law_due", "_law_room", "_law_pair", "_law_memory"] ["_law_hand_here", "_law_spec_here", "_law_web", "_law_k", "_law_turns_here", "_law_late_here"] (defScope s_law_blind_right) := ⟨rfl, rfl, rfl, by decide +kernel, rfl, by decide +kernel, by decide +kernel⟩
theorem ok_law_blind_right (T : Top K mg) (MK : Mks K mg base P1 P2 P3) : Cal P w K mg base 8 "_law_blind_right" ["_law_hand_here", "_law_spec_here", "_law_web", "_law_k", "_law_turns_here", "_law_late_here"] (spBlindRight K P1 P2 P3) := by
  have G := T.G
  refine T.d_law_blind_right.calG sc_law_blind_right (fun _ _ _ _ _ _ us hl => match us, hl with | [_, _, _, _, _, _], _ => rfl) (fun vs H Q E h => ?_) (fun f cdv A outer s H0 E hr => ?_)
  · obtain ⟨m, ms, ts, k, tn, late, _, _, i, _⟩ := h
    exact isAll_len i
  refine ⟨_, (pss_cons (ps_set (i := 6) sc_law_blind_right.nd rfl (Or.inr rfl) (pe_ix ix_list (pe_lst (pa_cons pe_int (pa_cons pe_int (pa_cons pe_int (pa_cons pe_int (pa_cons pe_int pa_nil)))))) (pe_cal (ok_law_draw T) (hr.mono (by decide)) (by rfl) (pa_cons (pv 0) (pa_cons pe_int pa_nil))) (fun _ _ => rfl)))
    (pss_cons (ps_par (i := 7) (j := 8) rfl sc_law_blind_right.nd rfl rfl (by decide) rfl rfl (pa_cons (pe_cal (ok_law_unseeing MK) (hr.mono (by decide)) (by rfl) (pa_cons (pv 4) (pa_cons (pv 5) pa_nil))) (pa_cons (pe_cal (ok_law_all_tags T) (hr.mono (by decide)) (by rfl) (pa_cons (pv 1) (pa_cons (pv 3) (pa_cons (pv 4) (pa_cons (pv 5) (pa_cons (pv 6) pa_nil)))))) pa_nil)) (by rfl))
    (pss_cons (ps_set (i := 9) sc_law_blind_right.nd rfl (Or.inr rfl) (pe_cal (ok_blind_row T) (hr.mono (by decide)) (by rfl) (pa_cons (pv 7) (pa_cons (pv 2) (pa_cons (pv 3) (pa_cons (pv 6) pa_nil))))))
    (pss_cons (ps_if (pt_cmpR op_ne (pe_cmpR op_notN (pv 9) pe_non (nomark _)) (pe_cal (ok_law_falls T) (hr.mono (by decide)) (by rfl) (pa_cons (pv 1) (pa_cons (pv 8) pa_nil))) (nomark _)) (pss_one (ps_ret pe_bl)) pss_nil)
    (pss_cons (ps_if (pt_cmpR op_isN (pv 9) pe_non (nomark _)) (pss_one (ps_ret (pe_callB (cr_all rfl) (by rfl) G.all_ (by decide +kernel) (pa_cons (pe_lc (own := [("_law_pair", 12), ("_law_memory", 13)]) (g := (gTup K 2 (gCons (gName 12) (gCons (gName 13) gNil)))) (tt := tYes) (te := (tOp (rI0 fun i j => .bl (decide (j ≤ i))) (tCB (rLenSet w) (tCons (tCB (rSetT w K) (tCons (tOp (rIxT K) (tVar 12) (tC (.int 0))) tNil)) tNil)) (tCB (rI2 fun i j => if j < i then j else i) (tCons (tVar 6) (tCons (tOp (rI0 fun i j => .int (i + j)) (tVar 13) (tC (.int 1))) tNil))))) rfl sc_law_blind_right.nd (pi_zipLT (by rfl) G.zip_ (pa_cons (pv 8) (pa_cons (pe_ix ix_tup (pv 1) pe_int (fun _ _ => rfl)) pa_nil))) (blkOk_by (own := [("_law_pair", 12), ("_law_memory", 13)]) (by kernel_rfl)) (fun _ _ _ _ _ => (pg_tup rfl (pgs_cons (pg_name (i := 12) sc_law_blind_right.nd rfl (Or.inl rfl)) (pgs_cons (pg_name (i := 13) sc_law_blind_right.nd rfl (Or.inl rfl)) pgs_nil)))) (fun _ _ _ _ _ => pts_nil) (fun _ _ _ _ _ => (pe_cmpR op_ge (pe_callB cr_lenSet (by rfl) G.len_ (by decide +kernel) (pa_cons (pe_callTy (call_setT rfl) (by rfl) G.set_ (by decide +kernel) (pa_cons (pe_ix ix_tup (pv 12) pe_int (fun _ _ => rfl)) pa_nil)) pa_nil)) (pe_callB (call_min2 rfl) (by rfl) G.min_ (by decide +kernel) (pa_cons (pv 6) (pa_cons (pe_op op_add (pv 13) pe_int) pa_nil))) (nomark _)))) pa_nil)))) pss_nil)
    (pss_cons (ps_if (PW.pt (pw_or (pt_not (pt_val (pe_callB call_isi (by rfl) G.isinstance_ (by decide +kernel) (pa_cons (pv 9) (pa_cons (pe_bltn (v := .ty "tuple") (by rfl) G.tuple_ (by decide +kernel) rfl) pa_nil))))) (pw_or1 (pt_cmpR op_isnot_bl (pe_cal (ok_is_row T) (hr.mono (by decide)) (by rfl) (pa_cons (pv 2) (pa_cons (pv 9) pa_nil))) pe_bl (nomark _))))) (pss_one (ps_ret pe_bl)) pss_nil)
    (pss_cons (ps_if (pt_val (pe_callB (cr_any rfl) (by rfl) G.any_ (by decide +kernel) (pa_cons (pe_lc (own := [("_law_room", 11)]) (g := (gName 11)) (tt := tYes) (te := (tOp (rI0 fun i j => .bl (decide (j < i))) (tBMN (rCntT K) (tVar 9) (tCons (tTup (tCons (tC (.str "give")) (tCons (tVar 11) tNil))) tNil)) (tVar 6))) rfl sc_law_blind_right.nd (pi_range1 (by rfl) G.range_ (pa_cons (pe_callB call_len_seq (by rfl) G.len_ (by decide +kernel) (pa_cons (pe_ix ix_tup (pv 1) pe_int (fun _ _ => rfl)) pa_nil)) pa_nil)) (blkOk_by (own := [("_law_room", 11)]) (by kernel_rfl)) (fun _ _ _ _ _ => (pg_name (i := 11) sc_law_blind_right.nd rfl (Or.inl rfl))) (fun _ _ _ _ _ => pts_nil) (fun _ _ _ _ _ => (pe_cmpR op_gt (pe_bmN PySem.F.slot_tuple_count PySem.F.type_tuple_count (mt_tcount (hu65 hr)) (pv 9) (pa_cons (pe_tup (pa_cons pe_str (pa_cons (pv 11) pa_nil))) pa_nil)) (pv 6) (nomark _)))) pa_nil))) (pss_one (ps_ret pe_bl)) pss_nil)
    (pss_cons (ps_set (i := 10) sc_law_blind_right.nd rfl (Or.inl rfl) (pe_cal (ok_law_led T) (hr.mono (by decide)) (by rfl) (pa_cons (pv 1) (pa_cons (pv 3) (pa_cons (pv 4) (pa_cons (pv 5) (pa_cons (pv 9) pa_nil)))))))
    (pss_one (ps_ret (pe_and (pe_cmpR op_ne (pe_ix ix_tup (pv 10) pe_int (fun _ _ => rfl)) pe_str (nomark _)) (pe_one (pe_cmpR (op_eqD hr.units) (pe_cal (ok_led T) (hr.mono (by decide)) (by rfl) (pa_cons (pe_cal (ok_blindly MK) (hr.mono (by decide)) (by rfl) (pa_cons (pv 7) pa_nil)) (pa_cons (pv 2) (pa_cons (pv 3) (pa_cons (pv 9) pa_nil))))) (pv 10) (nomark _)))))))))))))), ?_⟩
  rintro H vs Q ⟨m, ms, ts, k', tn, late, k, hT, i0, hw, hk1, hk2, hR, q⟩
  obtain ⟨v, v2, v3, v4, v5, v6, rfl, i1, i2, i3, i4, i5, i6⟩ := isAll6 i0
  have hn5 := hw.n5
  have nt : ∀ {j : Nat} {te : TE} {σ : L2.St} {H' : Hp}, 1 ≤ j ∧ j ≤ 60 → EvD m K te σ H' (.d (.int (j : Int))) → EvS m K te σ H' (fun r => ∃ a, r = .d a ∧ ∃ j : Nat, a = .int (j : Int) ∧ 1 ≤ j ∧ j ≤ 60) := fun {j te σ H'} hj h => h.s ⟨_, rfl, j, rfl, hj⟩
  refine q_asgS k (es_ixP (n := 5) (S := fun a => ∃ j : Nat, a = .int (j : Int) ∧ 1 ≤ j ∧ j ≤ 60) (es_lstP (da_cons (nt (j := 1) (by decide) ev_int) (da_cons (nt (j := 2) (by decide) ev_int) (da_cons (nt (j := 3) (by decide) ev_int) (da_cons (nt (j := 8) (by decide) ev_int) (da_cons (nt (j := 60) (by decide) ev_int) da_nil))))) fun xs h => by rw [h.1]; decide) (es_draw (n := 5) (ev_var rfl i1) ev_int (by decide) (by decide))) fun r v7 H1 e1 hr i7 => ?_
  obtain ⟨_, rfl, many, rfl, hm1, hm60⟩ := hr
  let nx := nextM tn late
  refine q_par e1.ok (ev_law_uns (n := ms.length) hT hR (ev_var rfl (i5.mono e1)) (ev_var rfl (i6.mono e1))) (ev_call (x := ((ms, ts), k', tn, late, many)) (ea_cons (ev_var rfl (i2.mono e1)) (ea_cons (ev_var rfl (i4.mono e1)) (ea_cons (ev_var rfl (i5.mono e1)) (ea_cons (ev_var rfl (i6.mono e1)) (ea_cons (ev_var rfl i7) ea_nil))))) ⟨hw, hk1, hR, hm60⟩) fun v8 v9 H2 e2 i8 i9 => ?_
  have e02 := R.trans e1 e2
  refine q_asgS e2.ok (es_call (x := (((ms, ts), nx), k', many)) (ea_cons (ev_var rfl i8) (ea_cons (ev_var rfl (i3.mono e02)) (ea_cons (ev_var rfl (i4.mono e02)) (ea_cons (ev_var rfl (i7.mono e2)) ea_nil)))) ⟨hw, hk1, hk2, hm1, hm60⟩) fun r v10 H3 e3 hr i10 => ?_
  have e03 := R.trans e02 e3
  have i7c := i7.mono (R.trans e2 e3)
  have i8c := i8.mono e3
  have i9c := i9.mono e3
  clear i7 i8 i9
  have hfalls : ∀ {σ : L2.St}, σ[1]? = some (some v2) → σ[8]? = some (some v9) → EvD m K (tCall (spFalls K) [] L2.E0 (tCons (tVar 1) (tCons (tVar 8) tNil))) σ H3 (.d (.bool (blindM nx ms ts k' many).isSome)) := fun {σ} h1 h8 => by
    rw [blind_falls]
    exact ev_call (x := ((ms, ts), fun r => tagsR nx k' (ms.getD r 0) r many [])) (ea_cons (ev_var h1 (i2.mono e03)) (ea_cons (ev_tl (ev_var h8 i9c)) ea_nil)) ⟨hw, fun r => Nat.le_trans (tagsR_len ..) (by rw [List.length_nil]; omega)⟩
  rcases hr with ⟨hb, rfl⟩ | ⟨row, hb, rfl⟩
  · have hb : blindM nx ms ts k' many = none := hb
    refine q_when (b := false) e3.ok ((et_test (ev_neB ((ev_notN (ev_var rfl i10)).b (y := false) rfl) (hfalls rfl rfl))).is (by rw [hb]; rfl)) (fun z => absurd z Bool.false_ne_true) fun _ H4 e4 => ?_
    refine q_when (b := true) e4.ok ((et_test (ev_isN (ev_var rfl (i10.mono e4)))).is rfl) (fun _ H5 e5 => ?_) fun z => absurd z.symm Bool.false_ne_true
    have e35 := R.trans e4 e5
    have e05 := R.trans e03 e35
    refine s_ret e5.ok ((ev_allL (bs := List.replicate ms.length true) (ev_tlr (EvS.d (es_lcZ (ds := toldM nx ms k' many) (es := ms.map fun (n : Nat) => PyData.int (n : Int)) (fun i ys => ys = List.replicate i (.bool true)) (ea_cons (ev_tl (ev_var rfl (i9c.mono e35))) (ea_cons (ev_ixT (ds := [dNats ms, dPairs ts]) (ev_var rfl (i2.mono e05)) ev_int rfl) ea_nil)) (by rw [List.length_map]; unfold toldM; rw [List.length_map, List.length_range]) (by unfold toldM; rw [List.length_map, List.length_range]; omega) rfl (fun _ _ => rfl) fun m2 H6 n d e x y ys hd he I ix iy hys => ?_) fun r hr => ?_))).b ?_) fun vr H6 e6 i6r => q vr H6 (R.trans e05 e6) i6r
    · unfold toldM at hd
      rw [List.getElem?_map] at hd
      obtain ⟨r, hr, rfl⟩ := Option.map_eq_some_iff.mp hd
      have hrn : n < ms.length := by
        have := (List.getElem?_eq_some_iff.mp hr).1
        rwa [List.length_range] at this
      rw [List.getElem?_range hrn] at hr
      obtain rfl : n = r := Option.some.inj hr
      rw [mem_at hrn] at he
      have he := (Option.some.inj he).symm
      subst he
      obtain ⟨l, hl1, hl2, hl3⟩ := blind_sizes hb hrn
      refine TurnOk.det (p := true) (y := .bool true) (et_yes rfl) (fun _ => ?_) (fun z => absurd z.symm Bool.false_ne_true) fun _ => ?_
      · refine ev_leS (i := ((min many (ms.getD n 0 + 1) : Nat) : Int)) (es_lenSet (ns := (tagsR nx k' (ms.getD n 0) n many []).1) (ev_ixT (ds := [dInts (tagsR nx k' (ms.getD n 0) n many []).1, .bool (tagsR nx k' (ms.getD n 0) n many []).2.isSome]) (ev_var rfl ix) ev_int rfl) (Nat.le_trans (tagsR_len ..) (by rw [List.length_nil]; omega))) ((ev_i2 (g := fun i j => if j < i then j else i) (ev_var rfl (I.is _ _ (i7c.mono e35))) (ev_ii (g := fun i j => i + j) (ev_var rfl iy) (ev_int (i := 1)))).is ?_) fun r hs => ?_
        · congr 2
          show (if ((ms.getD n 0 : Nat) : Int) + 1 < (many : Int) then ((ms.getD n 0 : Nat) : Int) + 1 else (many : Int)) = _
          split <;> omega
        · obtain ⟨c, rfl, hc⟩ := hs
          refine ⟨_, rfl, ?_⟩
          have := hc l hl1 hl2
          omega
      · rw [hys]
        show List.replicate n _ ++ [_] = _
        rw [List.replicate_succ']
    · obtain ⟨ys, rfl, rfl⟩ := hr
      rw [List.map_replicate]
      unfold toldM
      rw [List.length_map, List.length_range]
    · rw [List.all_eq_true]
      intro x hx
      exact (List.mem_replicate.mp hx).2
  · obtain ⟨b1, b2, b3, b4⟩ := blind_some (n := ms.length) hw hm60 hb
    have i10d : Is m K H3 v10 (.d (dRow row)) := Is.d_of_nt i10
    refine q_when (b := false) e3.ok ((et_test (ev_neB ((ev_notN (ev_var rfl i10d)).b (y := true) rfl) (hfalls rfl rfl))).is (by rw [hb]; rfl)) (fun z => absurd z Bool.false_ne_true) fun _ H4 e4 => ?_
    refine q_when (b := false) e4.ok ((et_test (ev_isN (ev_var rfl (i10d.mono e4)))).is rfl) (fun z => absurd z Bool.false_ne_true) fun _ H5 e5 => ?_
    have e35 := R.trans e4 e5
    have e05 := R.trans e03 e35
    refine q_when (b := false) e5.ok ((et_or (et_not (et_B (ev_isi (ev_var rfl (i10d.mono e35)) (kit_tuple _)))) (fun _ => et_test (ev_isNotB (ev_call (x := ((ms, ts), row)) (ea_cons (ev_var rfl (i3.mono e05)) (ea_cons (ev_var rfl (i10d.mono e35)) ea_nil)) ⟨hw, b1⟩) ev_bl))).is rfl) (fun z => absurd z Bool.false_ne_true) fun _ H6 e6 => ?_
    have e36 := R.trans e35 e6
    have e06 := R.trans e03 e36
    refine q_when (b := false) e6.ok ((et_B (ev_anyL (bs := (List.range ms.length).map fun r => decide ((many : Int) < ((row.count (true, r) : Nat) : Int))) (ev_tlr ((ev_lcR (n := ms.length) (fun _ => true) (fun r => .bool (decide ((many : Int) < ((row.count (true, r) : Nat) : Int)))) (ea_cons ((ev_lenT (ev_ixT (ds := [dNats ms, dPairs ts]) (ev_var rfl (i2.mono e06)) ev_int rfl)).is (by rw [List.length_map])) ea_nil) (by omega) (fun _ => rfl) (fun m2 H7 r hr I => et_yes rfl) (fun m2 H7 r hr I _ => ?_)).is ?_)))).is ?_) (fun z => absurd z Bool.false_ne_true) fun _ H7 e7 => ?_
    · refine ev_ib (g := fun i j => decide (j < i)) (i := ((row.count (true, r) : Nat) : Int)) (j := (many : Int)) ((ev_tcount (d := dAsk (true, r)) (ev_var rfl (I.is _ _ (i10.mono e36))) (ev_tup (ds := [.str (word true), .int (r : Int)]) (ea_cons ev_str (ea_cons (ev_var rfl (.int _)) ea_nil))) (asks_plain row) (ask_plain _).1 (ask_plain _).2).is ?_) (ev_var rfl (I.is _ _ (i7c.mono e36)))
      rw [asks_count]
    · rw [filter_true, List.map_map]
      rfl
    · rw [List.any_eq_false]
      intro x hx
      obtain ⟨r, _, rfl⟩ := List.mem_map.mp hx
      have := b2 r
      simp only [id]
      rw [decide_eq_true_eq]
      omega
    have e37 := R.trans e36 e7
    have e07 := R.trans e03 e37
    refine q_asg e7.ok (ev_call (x := ((ms, ts), k', (true, tn, late), row)) (ea_cons (ev_var rfl (i2.mono e07)) (ea_cons (ev_var rfl (i4.mono e07)) (ea_cons (ev_var rfl (i5.mono e07)) (ea_cons (ev_var rfl (i6.mono e07)) (ea_cons (ev_var rfl (i10d.mono e37)) ea_nil))))) ⟨hw, hk1, hR, rowOk_lt b1, b4⟩) fun v11 H8 e8 i11 => ?_
    have e38 := R.trans e37 e8
    have e08 := R.trans e03 e38
    refine s_ret e8.ok ((ev_andV (a := true) (b := true) ((ev_neS (ev_ixT (ds := [dDeeds (ledM ⟨ms.length, nx, ms, ts, k'⟩ row ([], begunM ms)).1, .str (ledM ⟨ms.length, nx, ms, ts, k'⟩ row ([], begunM ms)).2]) (ev_var rfl i11) ev_int rfl) ev_str).b ?_) fun _ => (ev_eqD (ev_call (x := ((⟨ms.length, nx, ms, ts, k'⟩ : Ldg), row)) (ea_cons (ev_blindly hT (ev_var rfl (i8c.mono e38))) (ea_cons (ev_var rfl (i3.mono e08)) (ea_cons (ev_var rfl (i4.mono e08)) (ea_cons (ev_var rfl (i10d.mono e38)) ea_nil)))) ⟨hw, b1, rfl, hk1, hk2, b4⟩) (ev_var rfl i11) (led_lay ..) (led_lay ..)).b ?_).b rfl) fun vr H9 e9 i9r => q vr H9 (R.trans e08 e9) i9r
    · rw [Bool.not_eq_true', decide_eq_false_iff_not]
      exact b3
    · exact led_refl _ _ (led_word ..)
end
end K20
end
section
set_option linter.all false
set_option maxRecDepth 100000
set_option maxHeartbeats 2000000
set_option autoImplicit false
namespace K20
open PySem PySem.Spec PyProof.Rows L2 LamX NdefX PySem.W
section
variable {m : Md} {K : PySem.W.Frag} {σ : L2.St} {H : Hp} {te tx : TE} {tA tr : TA} {D : Ends} {tz : TS} {α : Type} {enc : α → List Dx} {pre : α → Prop} {post : α → Dx → Prop}
/-- arguments told by a relation -/
def EvAS (m : Md) (K : PySem.W.Frag) (ta : TA) (σ : L2.St) (H : Hp) (S : List Dx → Prop) : Prop := ∀ H1, m.R H H1 → ∀ Q : List V → Hp → Prop, (∀ ds vs H2, m.R H1 H2 → S ds → IsAll m K H2 vs ds → Q vs H2) → ta σ H1 Q
theorem as_nil : EvAS m K tNil σ H (fun ds => ds = []) := fun H1 e Q q => q [] [] H1 (R.refl e.ok) rfl True.intro
theorem as_cons {S : Dx → Prop} {S' : List Dx → Prop} (h : EvS m K te σ H S) (hr : EvAS m K tr σ H S') : EvAS m K (tCons te tr) σ H (fun ds => ∃ d ds', ds = d :: ds' ∧ S d ∧ S' ds') := fun H1 e Q q =>
  h H1 e _ fun r v H2 e2 hs i2 => hr H2 (R.trans e e2) _ fun ds vs H3 e3 hs3 i3 => q (r :: ds) (v :: vs) H3 (R.trans e2 e3) ⟨r, ds, rfl, hs, hs3⟩ ⟨i2.mono e3, i3⟩
theorem es_callS {E : XK} {S : List Dx → Prop} {S2 : Dx → Prop} (h : EvAS m K tA σ H S) (hp : ∀ ds, S ds → ∃ x, ds = enc x ∧ pre x ∧ ∀ r, post x r → S2 r) : EvS m K (tCall (SpP K enc pre post) [] E tA) σ H S2 := fun H1 e Q q => h H1 e _ fun ds vs H2 e2 hs i2 => by
  show SpP K enc pre post (vs ++ []) H2 Q E
  rw [List.append_nil]
  obtain ⟨x, rfl, h1, h2⟩ := hp ds hs
  exact ⟨m, x, e2.ok, i2, h1, fun r v H3 e3 hr i3 => q r v H3 (R.trans e2 e3) (h2 r hr) i3⟩
theorem q_parS {S1 S2 : Dx → Prop} {i j : Nat} (k : m.ok H) (h1 : EvS m K te σ H S1) (h2 : EvS m K tx σ H S2) (q : ∀ r1 r2 v w H1, m.R H H1 → S1 r1 → S2 r2 → Is m K H1 v r1 → Is m K H1 w r2 → tz D ((σ.set i (some v)).set j (some w)) H1) : tSeq (tPar i j (tCons te (tCons tx tNil))) tz D σ H := by
  show tCons te (tCons tx tNil) σ H fun vs H1 => ∃ v w, vs = [v, w] ∧ tz D ((σ.set i (some v)).set j (some w)) H1
  refine as_cons h1 (as_cons h2 as_nil) H (R.refl k) _ fun ds vs H1 e1 hs i1 => ?_
  obtain ⟨d1, _, rfl, s1, d2, _, rfl, s2, rfl⟩ := hs
  obtain ⟨v, w, rfl, iv, iw⟩ := isAll2 i1
  exact ⟨v, w, rfl, q d1 d2 v w H1 e1 s1 s2 iv iw⟩
end
/-- a def, the function object told -/
theorem FunD.okG {P : Program} {w : World} {K : PySem.W.Frag} {mg : Str → Option Value} {base : Heap} {x : Str} {st : Stmt} {N ps : List Str} {k : Nat} {sp : Sp} {f : Addr} {fd : FuncData} (F : FunD K x x (defArgs st) (defBody st) (defScope st) [] [] f fd) (S : FnScope N ps (defScope st))
    (len : ∀ vs H Q E, sp vs H Q E → vs.length = ps.length)
    (body : ∀ (f : Addr) (cdv : Value) (A : Around) (outer : List Env) (s : Shared) (H0 : Hp) (E : XK), Room k (A.deeper (envOfC x (defScope st) s.heap.objs.size f cdv)) →
      ∃ t, PSs (cxD P w K mg base N x st f cdv A outer s H0 E) (defBody st) t ∧
        ∀ (H : Hp) (vs : List V) (Q : VK), sp vs H Q E → t { nx := fun _ H' => Q .non H', rt := Q } (start N vs) H) :
    FnOk P w K mg base CX0 (k + 1) f fd ps sp := by
  refine F.ok S len (fun cdv A outer s H vs Q E hr h => ?_)
  obtain ⟨t, ht, hq⟩ := body f cdv A outer s H E hr
  exact ⟨t, ht.nox, hq H vs Q h⟩
end K20
end
section
set_option linter.all false
set_option maxRecDepth 100000
set_option maxHeartbeats 2000000
set_option autoImplicit false
namespace K20
open PySem PySem.Spec PyProof.Rows L2 LamX NdefX PySem.W
section
variable {P : Program} {w : World} {K : PySem.W.Frag} {mg : Str → Option Value} {base : Heap} {P1 P2 P3 : Addr}
theorem ev_blindright {m : Md} {σ : L2.St} {H : Hp} {tA : TA} {ms : List Nat} {ts : List (Nat × Nat)} {k : Nat} {tn : List (List Int)} {late : Late} (hT : m.T = T20 P1 P2 P3) (h : EvA m K tA σ H [.hand, .d (dSpec ms ts), .web ms ts, .d (.int (k : Int)), .d (.list (tn.map dInts)), .d (dLate late)]) (hw : WebOk ms ts) (h1 : 1 ≤ k) (h2 : k ≤ 200) (hR : RowsOk ms.length tn) :
    EvD m K (tCall (spBlindRight K P1 P2 P3) [] L2.E0 tA) σ H (.d (.bool true)) := fun H1 e Q q => h H1 e _ fun vs H2 e2 i2 => by
  show spBlindRight K P1 P2 P3 (vs ++ []) H2 Q L2.E0
  rw [List.append_nil]
  exact ⟨m, ms, ts, k, tn, late, e2.ok, hT, i2, hw, h1, h2, hR, fun v H3 e3 i3 => q v H3 (R.trans e2 e3) i3⟩
/-! ### law -/
def spLaw (K : PySem.W.Frag) (P1 P2 P3 : Addr) : Sp := fun vs H Q _ => ∃ (m : Md) (v : V) (ns : List Int), vs = [v] ∧ m.ok H ∧ m.T = T20 P1 P2 P3 ∧ m.lo = [] ∧ Is m K H v (.rl (ns.map .int)) ∧ ∀ H', Q (.bl true) H'
theorem sc_law : FnScope ["_law_script", "_law_hand_here", "_law_turn", "_law_spec_here", "_law_k", "_law_web", "_law_dyes", "_law_turns_here", "_law_late_here", "_law_row_here", "_law_due"] ["_law_script"] (defScope s_law) := ⟨rfl, rfl, rfl, by decide +kernel, rfl, by decide +kernel, by decide +kernel⟩
theorem ok_law (T : Top K mg) (MK : Mks K mg base P1 P2 P3) {f : Addr} {fd : FuncData} (F : FunD K "law" "law" (defArgs s_law) (defBody s_law) (defScope s_law) [] [] f fd) : FnOk P w K mg base CX0 9 f fd ["_law_script"] (spLaw K P1 P2 P3) := by
  have G := T.G
  refine FunD.okG F sc_law (fun vs H Q E h => by obtain ⟨_, _, _, rfl, _⟩ := h; rfl) (fun f cdv A outer s H0 E hr => ?_)
  refine ⟨_, (pss_cons (ps_set (i := 1) sc_law.nd rfl (Or.inl rfl) (pe_cal (ok_law_hand T) (hr.mono (by decide)) (by rfl) (pa_cons (pv 0) pa_nil)))
    (pss_cons (ps_for PassesOwn.never rfl (pi_range1 (by rfl) G.range_ (pa_cons pe_int pa_nil)) (pg_name (i := 2) sc_law.nd rfl (Or.inl rfl))
    (pss_cons (ps_par (i := 3) (j := 4) rfl sc_law.nd rfl rfl (by decide) rfl rfl (pa_cons (pe_cal (ok_law_spec T) (hr.mono (by decide)) (by rfl) (pa_cons (pv 1) (pa_cons pe_int (pa_cons pe_int pa_nil)))) (pa_cons (pe_op op_add pe_int (pe_cal (ok_law_draw T) (hr.mono (by decide)) (by rfl) (pa_cons (pv 1) (pa_cons pe_int pa_nil)))) pa_nil)) (by rfl))
    (pss_cons (ps_set (i := 5) sc_law.nd rfl (Or.inl rfl) (pe_mkC (ok_Web_init T) T.w_mk T.w_glo (hr.mono (by decide)) (by rfl) (pa_cons (pe_ix ix_tup (pv 3) pe_int (fun _ _ => rfl)) (pa_cons (pe_ix ix_tup (pv 3) pe_int (fun _ _ => rfl)) pa_nil))))
    (pss_cons (ps_set (i := 6) sc_law.nd rfl (Or.inl rfl) (pe_cal (ok_dyeing T) (hr.mono (by decide)) (by rfl) (pa_cons (pv 5) (pa_cons (pv 4) pa_nil))))
    (pss_cons (ps_par (i := 7) (j := 8) rfl sc_law.nd rfl rfl (by decide) rfl rfl (pa_cons (pe_cal (ok_law_turns T) (hr.mono (by decide)) (by rfl) (pa_cons (pv 1) (pa_cons (pv 3) (pa_cons (pv 4) (pa_cons (pv 6) pa_nil))))) (pa_cons (pe_cal (ok_law_late T) (hr.mono (by decide)) (by rfl) (pa_cons (pv 1) (pa_cons (pv 3) (pa_cons (pv 4) pa_nil)))) pa_nil)) (by rfl))
    (pss_cons (ps_if (pt_not (pt_val (pe_cal (ok_law_blind_right T MK) (hr.mono (by decide)) (by rfl) (pa_cons (pv 1) (pa_cons (pv 3) (pa_cons (pv 5) (pa_cons (pv 4) (pa_cons (pv 7) (pa_cons (pv 8) pa_nil))))))))) (pss_one (ps_ret pe_bl)) pss_nil)
    (pss_cons (ps_set (i := 9) sc_law.nd rfl (Or.inl rfl) (pe_cal (ok_law_row T) (hr.mono (by decide)) (by rfl) (pa_cons (pv 1) (pa_cons (pe_callB call_len_seq (by rfl) G.len_ (by decide +kernel) (pa_cons (pe_ix ix_tup (pv 3) pe_int (fun _ _ => rfl)) pa_nil)) (pa_cons (pe_op op_add pe_int (pe_cal (ok_law_draw T) (hr.mono (by decide)) (by rfl) (pa_cons (pv 1) (pa_cons pe_int pa_nil)))) pa_nil)))))
    (pss_cons (ps_if (pt_cmpR (op_neD hr.units) (pe_cal (ok_led T) (hr.mono (by decide)) (by rfl) (pa_cons (pe_cal (ok_blindly MK) (hr.mono (by decide)) (by rfl) (pa_cons (pe_cal (ok_law_unseeing MK) (hr.mono (by decide)) (by rfl) (pa_cons (pv 7) (pa_cons (pv 8) pa_nil))) pa_nil)) (pa_cons (pv 5) (pa_cons (pv 4) (pa_cons (pv 9) pa_nil))))) (pe_cal (ok_law_led T) (hr.mono (by decide)) (by rfl) (pa_cons (pv 3) (pa_cons (pv 4) (pa_cons (pv 7) (pa_cons (pv 8) (pa_cons (pv 9) pa_nil)))))) (nomark _)) (pss_one (ps_ret pe_bl)) pss_nil)
    (pss_one (ps_if (pt_cmpR op_notN (pv 6) pe_non (nomark _)) (pss_cons (ps_set (i := 10) sc_law.nd rfl (Or.inl rfl) (pe_cal (ok_law_led T) (hr.mono (by decide)) (by rfl) (pa_cons (pv 3) (pa_cons (pv 4) (pa_cons (pv 6) (pa_cons pe_non (pa_cons (pv 9) pa_nil)))))))
    (pss_cons (ps_if (PW.pt (pw_or (pt_cmpR op_ne (pe_ix ix_tup (pv 10) pe_int (fun _ _ => rfl)) pe_str (nomark _)) (pw_or1 (pt_cmpR (op_neD hr.units) (pe_cal (ok_led T) (hr.mono (by decide)) (by rfl) (pa_cons (pe_cal (ok_blindly MK) (hr.mono (by decide)) (by rfl) (pa_cons (pe_cal (ok_in_turn MK) (hr.mono (by decide)) (by rfl) (pa_cons (pv 6) pa_nil)) pa_nil)) (pa_cons (pv 5) (pa_cons (pv 4) (pa_cons (pv 9) pa_nil))))) (pv 10) (nomark _))))) (pss_one (ps_ret pe_bl)) pss_nil)
    (pss_one (ps_if (pt_cmpR op_notN (pe_cal (ok_blind_row T) (hr.mono (by decide)) (by rfl) (pa_cons (pe_cal (ok_in_turn MK) (hr.mono (by decide)) (by rfl) (pa_cons (pv 6) pa_nil)) (pa_cons (pv 5) (pa_cons (pv 4) (pa_cons (pe_ix ix_list (pe_lst (pa_cons pe_int (pa_cons pe_int (pa_cons pe_int pa_nil)))) (pe_cal (ok_law_draw T) (hr.mono (by decide)) (by rfl) (pa_cons (pv 1) (pa_cons pe_int pa_nil))) (fun _ _ => rfl)) pa_nil))))) pe_non (nomark _)) (pss_one (ps_ret pe_bl)) pss_nil)))) pss_nil))))))))))
    (pss_one (ps_ret pe_bl)))), ?_⟩
  rintro H vs Q ⟨m, v, ns, rfl, k, hT, hlo, i1, q⟩
  refine ⟨v, rfl, m, v, ns, rfl, k, i1, fun a c l sd H1 e1 ha hc hh hl hz => ?_⟩
  have k2 : ({ m with hd := some (a, c, l) } : Md).ok H1 := ⟨e1.ok.tabs, fun a' c' l' h => by
    cases h
    exact ⟨0, 0, sd, 0, hh, Int.le_refl _, hc, hl, hz⟩, fun p hp => e1.ok.lo p hp, fun p hp => by
    have hp : p ∈ m.lo := hp
    rw [hlo] at hp
    cases hp⟩
  have hT2 : ({ m with hd := some (a, c, l) } : Md).T = T20 P1 P2 P3 := hT
  generalize hm2 : ({ m with hd := some (a, c, l) } : Md) = m2 at k2 hT2
  have ih : ∀ {H' : Hp}, Is m2 K H' (.ref a) .hand := fun {H'} => by
    subst hm2
    exact ⟨a, c, l, rfl, rfl⟩
  clear hm2 k i1 e1
  refine q_forR1 (ps := []) (n := 3) (K := K) k2 (ea_cons (ev_int (i := ((3 : Nat) : Int))) ea_nil) (by decide) (fun _ σ' _ => ∃ b2 b3 b4 b5 b6 b7 b8 b9 b10, σ' = [some v, some (.ref a), b2, b3, b4, b5, b6, b7, b8, b9, b10]) (fun _ _ => ⟨_, _, _, _, _, _, _, _, _, rfl⟩) (fun H2 i σ' H3 hi e2 e3 pv => ?_) fun σ' H3 e3 pv => ?_
  · obtain ⟨b2, b3, b4, b5, b6, b7, b8, b9, b10, rfl⟩ := pv
    have hdraw : ∀ {n : Nat} {te : TE} {σ : L2.St} {H' : Hp}, σ[1]? = some (some (.ref a)) → EvD m2 K te σ H' (.d (.int (n : Int))) → 1 ≤ n → n ≤ 1000 → EvS m2 K (tCall (spDraw K) [] L2.E0 (tCons (tVar 1) (tCons te tNil))) σ H' (fun r => ∃ j : Int, r = .d (.int j) ∧ ∃ d : Nat, j = (d : Int) ∧ d < n) := fun {n te σ H'} h1 h2 hn hn2 => (es_draw (n := n) (ev_var h1 ih) h2 hn hn2).imp fun r ⟨d, hd, h⟩ => ⟨_, h, d, rfl, hd⟩
    refine q_parS (K := K) e3.ok (es_call (x := ()) (ea_cons (ev_var rfl ih) (ea_cons ev_int (ea_cons ev_int ea_nil))) True.intro) (es_opI (g := fun i j => i + j) (ev_int (i := 2)) (hdraw (n := 8) rfl ev_int (by decide) (by decide))) fun r1 r2 w1 w2 H4 e4 h1 h2 j1 j2 => ?_
    obtain ⟨ms, ts, rfl, hw⟩ := h1
    obtain ⟨_, rfl, d, rfl, hd⟩ := h2
    obtain ⟨k', hk', hk2, hk9⟩ : ∃ k' : Nat, (2 : Int) + (d : Int) = (k' : Int) ∧ 2 ≤ k' ∧ k' ≤ 9 := ⟨2 + d, by omega, by omega, by omega⟩
    rw [hk'] at j2
    have hn5 := hw.n5
    have hn1 := hw.n1
    refine q_asg e4.ok (ev_web (mg' := mg) hw (ev_ixT (ds := [dNats ms, dPairs ts]) (ev_var rfl j1) ev_int rfl) (ev_ixT (ds := [dNats ms, dPairs ts]) (ev_var rfl j1) ev_int rfl)) fun w3 H5 e5 j3 => ?_
    refine q_asgS e5.ok (es_call (x := ((ms, ts), k')) (ea_cons (ev_var rfl j3) (ea_cons (ev_var rfl (j2.mono e5)) ea_nil)) ⟨hw, by show 1 ≤ k'; omega, by show k' ≤ 10; omega⟩) fun r w4 H6 e6 hr j4 => ?_
    obtain ⟨dy, rfl, hdy⟩ := hr
    have hdy : ∀ ds, dy = some ds → DyOk ms ts k' ds := hdy
    have e46 := R.trans e5 e6
    refine q_parS e6.ok (es_call (x := ((ms, ts), k', dy)) (ea_cons (ev_var rfl ih) (ea_cons (ev_var rfl (j1.mono e46)) (ea_cons (ev_var rfl (j2.mono e46)) (ea_cons (ev_var rfl j4) ea_nil)))) ⟨hw, by show 1 ≤ k'; omega, by show k' ≤ 200; omega, fun ds hds => ⟨(hdy ds hds).len, fun r hr => ((hdy ds hds).lot r hr).1⟩⟩) (es_call (x := ((ms, ts), k')) (ea_cons (ev_var rfl ih) (ea_cons (ev_var rfl (j1.mono e46)) (ea_cons (ev_var rfl (j2.mono e46)) ea_nil))) ⟨hw, by show 1 ≤ k'; omega, by show k' ≤ 1000; omega⟩) fun r1 r2 w5 w6 H7 e7 h1 h2 j5 j6 => ?_
    obtain ⟨tn, rfl, hR⟩ := h1
    obtain ⟨late, rfl⟩ := h2
    have hR : RowsOk ms.length tn := hR
    have e47 := R.trans e46 e7
    have e57 := R.trans e6 e7
    refine q_when (b := false) e7.ok ((et_not (et_B (ev_blindright (ms := ms) (ts := ts) (k := k') (tn := tn) (late := late) hT2 (ea_cons (ev_var rfl ih) (ea_cons (ev_var rfl (j1.mono e47)) (ea_cons (ev_var rfl (j3.mono e57)) (ea_cons (ev_var rfl (j2.mono e47)) (ea_cons (ev_var rfl j5) (ea_cons (ev_var rfl j6) ea_nil)))))) hw (by omega) (by omega) hR))).is rfl) (fun z => absurd z Bool.false_ne_true) fun _ H8 e8 => ?_
    have e48 := R.trans e47 e8
    refine q_asgS e8.ok (es_callS (S2 := fun r => ∃ row : List Ask, r = .d (dRow row) ∧ row.length ≤ 100 ∧ rowOk ms row = true) (as_cons (ev_var rfl (ih (H' := H8))).es (as_cons (EvD.es ((ev_lenT (ev_ixT (ds := [dNats ms, dPairs ts]) (ev_var rfl (j1.mono e48)) ev_int rfl)).is (r1 := .d (.int (ms.length : Int))) (by rw [List.length_map]))) (as_cons (es_opI (g := fun i j => i + j) (ev_int (i := 1)) (hdraw (n := 40) rfl ev_int (by decide) (by decide))) as_nil))) fun ds hds => ?_) fun r w7 H9 e9 hr j7 => ?_
    · obtain ⟨_, _, rfl, rfl, _, _, rfl, rfl, _, _, rfl, ⟨_, rfl, d2, rfl, hd2⟩, rfl⟩ := hds
      refine ⟨(ms, 1 + d2), ?_, ⟨hn1, hn5, by show 1 + d2 ≤ 100; omega⟩, fun r hr => ?_⟩
      · show [Dx.hand, _, _] = [Dx.hand, _, _]
        rw [show ((1 : Int) + (d2 : Int)) = ((1 + d2 : Nat) : Int) by omega]
      · obtain ⟨row, h1, h2, h3⟩ := hr
        exact ⟨row, h1, by rw [h2]; show 1 + d2 ≤ 100; omega, h3⟩
    obtain ⟨row, rfl, hl1, hrow⟩ := hr
    have e49 := R.trans e48 e9
    have e59 := R.trans (R.trans e57 e8) e9
    have e79 := R.trans e8 e9
    refine q_when (b := false) e9.ok ((et_test ((ev_neD (ev_call (x := ((⟨ms.length, nextM tn late, ms, ts, k'⟩ : Ldg), row)) (ea_cons (ev_blindly hT2 (ev_law_uns (n := ms.length) hT2 hR (ev_var rfl (j5.mono e79)) (ev_var rfl (j6.mono e79)))) (ea_cons (ev_var rfl (j3.mono e59)) (ea_cons (ev_var rfl (j2.mono e49)) (ea_cons (ev_var rfl j7) ea_nil)))) ⟨hw, hrow, rfl, by show 1 ≤ k'; omega, by show k' ≤ 200; omega, by show row.length ≤ 1000; omega⟩)
      (ev_call (x := ((ms, ts), k', (true, tn, late), row)) (ea_cons (ev_var rfl (j1.mono e49)) (ea_cons (ev_var rfl (j2.mono e49)) (ea_cons (ev_var rfl (j5.mono e79)) (ea_cons (ev_var rfl (j6.mono e79)) (ea_cons (ev_var rfl j7) ea_nil))))) ⟨hw, by show 1 ≤ k'; omega, hR, rowOk_lt hrow, by show row.length ≤ 1000; omega⟩) (led_lay ..) (led_lay ..)).b ?_)).is rfl) (fun z => absurd z Bool.false_ne_true) fun _ H10 e10 => ?_
    · rw [Bool.not_eq_false']
      exact led_refl _ _ (led_word ..)
    have e410 := R.trans e49 e10
    have e310 := R.trans e4 e410
    have e510 := R.trans e59 e10
    have e610 := R.trans (R.trans e7 e79) e10
    cases dy with
    | none =>
      refine s_when (b := false) e10.ok ((et_test (ev_notN (ev_var rfl (j4.mono e610)))).is rfl) (fun z => absurd z Bool.false_ne_true) fun _ H11 e11 => ⟨R.trans e3 (R.trans e310 e11), ⟨_, _, _, _, _, _, _, _, _, rfl⟩⟩
    | some ds =>
      have hd := hdy ds rfl
      have hRd := dy_rows hd
      have j4t : Is m2 K H6 w4 (.d (.tuple (ds.map dInts))) := j4
      refine s_when (b := true) e10.ok ((et_test (ev_notN (ev_var rfl (j4.mono e610)))).is rfl) (fun _ H11 e11 => ?_) fun z => absurd z.symm Bool.false_ne_true
      have e411 := R.trans e410 e11
      have e511 := R.trans e510 e11
      have e611 := R.trans e610 e11
      have e911 := R.trans e10 e11
      have hkept := dy_kept (n := ms.length) hw hd (rowOk_lt hrow)
      refine q_asg e11.ok (ev_call (x := ((ms, ts), k', (false, ds, none), row)) (ea_cons (ev_var rfl (j1.mono e411)) (ea_cons (ev_var rfl (j2.mono e411)) (ea_cons (ev_var rfl (j4t.mono e611)) (ea_cons ev_non (ea_cons (ev_var rfl (j7.mono e911)) ea_nil))))) ⟨hw, by show 1 ≤ k'; omega, hRd, rowOk_lt hrow, by show row.length ≤ 1000; omega⟩) fun w8 H12 e12 j8 => ?_
      have e412 := R.trans e411 e12
      have e512 := R.trans e511 e12
      have e612 := R.trans e611 e12
      have e912 := R.trans e911 e12
      refine q_when (b := false) e12.ok ((et_or (a := false) (b := false) ((et_test (ev_neS (ev_ixT (ds := [dDeeds (ledM ⟨ms.length, nextM ds none, ms, ts, k'⟩ row ([], begunM ms)).1, .str (ledM ⟨ms.length, nextM ds none, ms, ts, k'⟩ row ([], begunM ms)).2]) (ev_var rfl j8) ev_int rfl) ev_str)).is ?_) fun _ => (et_test ((ev_neD (ev_call (x := ((⟨ms.length, nextM ds none, ms, ts, k'⟩ : Ldg), row)) (ea_cons (ev_blindly hT2 (ev_in_turn (n := ms.length) hT2 hRd (ev_var rfl (j4t.mono e612)))) (ea_cons (ev_var rfl (j3.mono e512)) (ea_cons (ev_var rfl (j2.mono e412)) (ea_cons (ev_var rfl (j7.mono e912)) ea_nil)))) ⟨hw, hrow, rfl, by show 1 ≤ k'; omega, by show k' ≤ 200; omega, by show row.length ≤ 1000; omega⟩) (ev_var rfl j8) (led_lay ..) (led_lay ..)).b ?_)).is rfl).is rfl) (fun z => absurd z Bool.false_ne_true) fun _ H13 e13 => ?_
      · rw [hkept]
        rfl
      · rw [Bool.not_eq_false']
        exact led_refl _ _ (led_word ..)
      have e413 := R.trans e412 e13
      have e513 := R.trans e512 e13
      have e613 := R.trans e612 e13
      have nt : ∀ {j : Nat} {te : TE} {σ : L2.St} {H' : Hp}, 1 ≤ j ∧ j ≤ 60 → EvD m2 K te σ H' (.d (.int (j : Int))) → EvS m2 K te σ H' (fun r => ∃ a, r = .d a ∧ ∃ j : Nat, a = .int (j : Int) ∧ 1 ≤ j ∧ j ≤ 60) := fun {j te σ H'} hj h => h.s ⟨_, rfl, j, rfl, hj⟩
      refine s_when (b := false) e13.ok ((et_test ((ev_notN (a := .none) (EvS.d (es_callS (S2 := fun r => r = .d .none) (as_cons (ev_in_turn (n := ms.length) hT2 hRd (ev_var rfl (j4t.mono e613))).es (as_cons (ev_var rfl (j3.mono e513)).es (as_cons (ev_var rfl (j2.mono e413)).es (as_cons (es_ixP (n := 3) (S := fun a => ∃ j : Nat, a = .int (j : Int) ∧ 1 ≤ j ∧ j ≤ 60) (es_lstP (da_cons (nt (j := 1) (by decide) ev_int) (da_cons (nt (j := 5) (by decide) ev_int) (da_cons (nt (j := 60) (by decide) ev_int) da_nil))) fun xs h => by rw [h.1]; decide) (es_draw (n := 3) (ev_var rfl ih) ev_int (by decide) (by decide))) as_nil)))) fun ds' hds => ?_) fun r hr => hr)).b ?_)).is rfl) (fun z => absurd z Bool.false_ne_true) fun _ H14 e14 => ⟨R.trans e3 (R.trans e4 (R.trans e413 e14)), ⟨_, _, _, _, _, _, _, _, _, rfl⟩⟩
      · obtain ⟨_, _, rfl, rfl, _, _, rfl, rfl, _, _, rfl, rfl, _, _, rfl, ⟨_, rfl, mn, rfl, hm1, hm60⟩, rfl⟩ := hds
        refine ⟨(((ms, ts), nextM ds none), k', mn), rfl, ⟨hw, by show 1 ≤ k'; omega, by show k' ≤ 200; omega, hm1, hm60⟩, fun r hr => ?_⟩
        rcases hr with ⟨_, h⟩ | ⟨row', h, _⟩
        · exact h
        · have h0 := dy_blind (many := mn) hw hd
          have h : blindM (nextM ds none) ms ts k' mn = some row' := h
          rw [h0] at h
          cases h
      · rfl
  · obtain ⟨b2, b3, b4, b5, b6, b7, b8, b9, b10, rfl⟩ := pv
    refine s_ret (K := K) e3.ok ev_bl fun vr H4 e4 i4 => ?_
    rw [show vr = .bl true from dp_bl i4]
    exact q H4
end
end K20
end
section
set_option linter.all false
set_option maxRecDepth 100000
set_option maxHeartbeats 4000000
set_option autoImplicit false
namespace K20
open PySem PySem.Spec PyProof.Rows L2 LamX NdefX
section
variable {K : PySem.W.Frag} {h : Heap} {mg : Str → Option Value}
theorem def_of (X : K.In h) (N : h.Ns mainGlobals mg) (c : He.SaysD fas fns K) {x : Str} {st : Stmt} (i j : Nat) (hd : fns[i]? = some ⟨(x, none), x, x, defArgs st, defBody st, defScope st, [], []⟩) (hf : fas[j]? = some (.glo x)) : DefAt K mg x st := by
  obtain ⟨fd, F⟩ := He.SaysD.def_ c i hd
  exact ⟨_, fd, F, He.glo_ok X N (He.SaysD.fact c j hf)⟩
theorem meth_of (c : He.SaysD fas fns K) {C nm q : Str} {st : Stmt} (i : Nat) (hd : fns[i]? = some ⟨(C, some nm), nm, q, defArgs st, defBody st, defScope st, [], []⟩) : MethDef K C nm q st := by
  obtain ⟨fd, F⟩ := He.SaysD.def_ c i hd
  exact ⟨fd, F⟩
theorem glo_of (X : K.In h) (N : h.Ns mainGlobals mg) (c : He.SaysD fas fns K) : Glo K mg where
  isinstance_ := He.free_ok X N (He.SaysD.fact c 48 (f := .free "isinstance") rfl)
  int_ := He.free_ok X N (He.SaysD.fact c 49 (f := .free "int") rfl)
  bool_ := He.free_ok X N (He.SaysD.fact c 50 (f := .free "bool") rfl)
  tuple_ := He.free_ok X N (He.SaysD.fact c 51 (f := .free "tuple") rfl)
  len_ := He.free_ok X N (He.SaysD.fact c 52 (f := .free "len") rfl)
  all_ := He.free_ok X N (He.SaysD.fact c 53 (f := .free "all") rfl)
  enumerate_ := He.free_ok X N (He.SaysD.fact c 54 (f := .free "enumerate") rfl)
  sorted_ := He.free_ok X N (He.SaysD.fact c 55 (f := .free "sorted") rfl)
  list_ := He.free_ok X N (He.SaysD.fact c 56 (f := .free "list") rfl)
  range_ := He.free_ok X N (He.SaysD.fact c 57 (f := .free "range") rfl)
  min_ := He.free_ok X N (He.SaysD.fact c 58 (f := .free "min") rfl)
  dict_ := He.free_ok X N (He.SaysD.fact c 59 (f := .free "dict") rfl)
  max_ := He.free_ok X N (He.SaysD.fact c 60 (f := .free "max") rfl)
  sum_ := He.free_ok X N (He.SaysD.fact c 61 (f := .free "sum") rfl)
  set_ := He.free_ok X N (He.SaysD.fact c 62 (f := .free "set") rfl)
  any_ := He.free_ok X N (He.SaysD.fact c 63 (f := .free "any") rfl)
  str_ := He.free_ok X N (He.SaysD.fact c 64 (f := .free "str") rfl)
  zip_ := He.free_ok X N (He.SaysD.fact c 65 (f := .free "zip") rfl)
  abs_ := He.free_ok X N (He.SaysD.fact c 66 (f := .free "abs") rfl)
  mTags := He.int_ok X N (He.SaysD.fact c 67 (f := .int "MOST_TAGS" 200) rfl)
  mRooms := He.int_ok X N (He.SaysD.fact c 68 (f := .int "MOST_ROOMS" 60) rfl)
  mMem := He.int_ok X N (He.SaysD.fact c 69 (f := .int "MOST_MEMORY" 30) rfl)
  mNeeds := He.int_ok X N (He.SaysD.fact c 70 (f := .int "MOST_NEEDS" 24) rfl)
  mEach := He.int_ok X N (He.SaysD.fact c 71 (f := .int "MOST_EACH" 60) rfl)
  cW := He.cls_ok (He.SaysD.fact c 72 (f := .cls "Web") rfl)
  nM := He.noat_ok (He.SaysD.fact c 74 (f := .noat "Web" "memories") rfl)
  nT := He.noat_ok (He.SaysD.fact c 75 (f := .noat "Web" "ties") rfl)
  cL := He.cls_ok (He.SaysD.fact c 73 (f := .cls "Leading") rfl)
  nKeeper := He.noat_ok (He.SaysD.fact c 76 (f := .noat "Leading" "keeper") rfl)
  nWeb := He.noat_ok (He.SaysD.fact c 77 (f := .noat "Leading" "web") rfl)
  nK := He.noat_ok (He.SaysD.fact c 78 (f := .noat "Leading" "k") rfl)
  nDone := He.noat_ok (He.SaysD.fact c 79 (f := .noat "Leading" "done_so_far") rfl)
  nHere := He.noat_ok (He.SaysD.fact c 80 (f := .noat "Leading" "here") rfl)
theorem top_of (X : K.In h) (N : h.Ns mainGlobals mg) (c : He.SaysD fas fns K) : Top K mg where
  G := glo_of X N c
  d_is_integer := def_of X N c 0 0 rfl rfl
  d_is_within := def_of X N c 1 1 rfl rfl
  d_is_number := def_of X N c 2 2 rfl rfl
  d_is_tuple_of := def_of X N c 3 3 rfl rfl
  d_check_number := def_of X N c 4 4 rfl rfl
  d_check_tags := def_of X N c 5 5 rfl rfl
  d_is_tie := def_of X N c 6 6 rfl rfl
  d_is_room := def_of X N c 8 7 rfl rfl
  d_tied_rooms := def_of X N c 9 8 rfl rfl
  d_blindly := def_of X N c 10 9 rfl rfl
  d_check_few_needs := def_of X N c 11 10 rfl rfl
  d_order_of := def_of X N c 12 11 rfl rfl
  d_choices := def_of X N c 13 12 rfl rfl
  d_lots_for := def_of X N c 14 13 rfl rfl
  d_tied_all := def_of X N c 15 14 rfl rfl
  d_is_too_few := def_of X N c 16 15 rfl rfl
  d_raw_dyeing := def_of X N c 17 16 rfl rfl
  d_dyeing := def_of X N c 18 17 rfl rfl
  d_in_turn := def_of X N c 19 18 rfl rfl
  d_row_for := def_of X N c 20 19 rfl rfl
  d_tags_of := def_of X N c 21 20 rfl rfl
  d_blind_row := def_of X N c 22 21 rfl rfl
  d_begun := def_of X N c 23 22 rfl rfl
  d_kept_tags := def_of X N c 24 23 rfl rfl
  d_raw_after := def_of X N c 25 24 rfl rfl
  d_raw_barred := def_of X N c 26 25 rfl rfl
  d_is_ask := def_of X N c 27 26 rfl rfl
  d_first_none := def_of X N c 28 27 rfl rfl
  d_is_row := def_of X N c 29 28 rfl rfl
  d_word_of := def_of X N c 30 29 rfl rfl
  d_led := def_of X N c 34 30 rfl rfl
  d_law_hand := def_of X N c 35 31 rfl rfl
  d_law_draw := def_of X N c 36 32 rfl rfl
  d_law_spec := def_of X N c 37 33 rfl rfl
  d_law_tied := def_of X N c 38 34 rfl rfl
  d_law_is_whole := def_of X N c 39 35 rfl rfl
  d_law_next := def_of X N c 40 36 rfl rfl
  d_law_unseeing := def_of X N c 41 37 rfl rfl
  d_law_all_tags := def_of X N c 42 38 rfl rfl
  d_law_falls := def_of X N c 43 39 rfl rfl
  d_law_led := def_of X N c 44 40 rfl rfl
  d_law_row := def_of X N c 45 41 rfl rfl
  d_law_turns := def_of X N c 46 42 rfl rfl
  d_law_late := def_of X N c 47 43 rfl rfl
  d_law_blind_right := def_of X N c 48 44 rfl rfl
  d_law := def_of X N c 49 45 rfl rfl
  w_glo := He.glo_ok X N (He.SaysD.fact c 46 (f := .glo "Web") rfl)
  w_mk := He.mkr_ok (He.SaysD.fact c 83 (f := .mkr "Web") rfl)
  w_init := meth_of c 7 rfl
  l_glo := He.glo_ok X N (He.SaysD.fact c 47 (f := .glo "Leading") rfl)
  l_mk := He.mkr_ok (He.SaysD.fact c 84 (f := .mkr "Leading") rfl)
  l_init := meth_of c 31 rfl
  l_done := He.meth_ok (He.SaysD.fact c 81 (f := .meth "Leading" "done") rfl)
  l_doneD := meth_of c 32 rfl
  l_answer := He.meth_ok (He.SaysD.fact c 82 (f := .meth "Leading" "answer") rfl)
  l_answerD := meth_of c 33 rfl
/-! the makers -/
theorem mk_of (X : K.In h) (N : h.Ns mainGlobals mg) (c : He.SaysD fas fns K) {base : Heap} {x : Str} {st : Stmt} (i j : Nat) (hd : fns[i]? = some ⟨(x, none), x, x, defArgs st, defBody st, defScope st, [], []⟩) (hf : fas[j]? = some (.glo x)) (ht : TabB base mg (He.cT K (x, none)).1 (He.cT K (x, none)).2) : MkAt K mg base x st (He.cT K (x, none)).2 := by
  obtain ⟨fd, F⟩ := He.SaysD.def_ c i hd
  have hm := He.glo_ok X N (He.SaysD.fact c j hf)
  obtain ⟨⟨oc, od, dV, kV, doc, pm, an, cdv, ct, osl, rfl, lk, k1, k2, k3⟩, kp⟩ := F
  obtain ⟨cc, rfl⟩ := He.codeIn_ref k1
  have ec := He.codeOf_eq (p := (x, none)) lk (by rfl)
  have e1 : (He.cT K (x, none)).1 = cc := ec
  rw [e1] at ht
  exact ⟨_, oc, od, dV, kV, doc, pm, an, cc, ct, osl, lk, k1, kp, hm, ht, k2, k3⟩
theorem mks_of (X : K.In h) (N : h.Ns mainGlobals mg) (c : He.SaysD fas fns K) (x3 : exT K = true) {base : Heap} (ht : ∀ p ∈ tfs.map (He.cT K), TabB base mg p.1 p.2) : Mks K mg base (tabD K "blindly") (tabD K "in_turn") (tabD K "_law_unseeing") where
  b := mk_of X N c 10 9 rfl rfl (ht _ (List.mem_map.mpr ⟨("blindly", none), by simp [tfs], rfl⟩))
  t := mk_of X N c 19 18 rfl rfl (ht _ (List.mem_map.mpr ⟨("in_turn", none), by simp [tfs], rfl⟩))
  l := mk_of X N c 41 37 rfl rfl (ht _ (List.mem_map.mpr ⟨("_law_unseeing", none), by simp [tfs], rfl⟩))
  n12 := by
    obtain ⟨h1, _⟩ := He.ba x3
    intro z
    rw [decide_eq_true z] at h1
    cases h1
  n13 := by
    obtain ⟨h1, _⟩ := He.ba (He.ba x3).2
    intro z
    rw [decide_eq_true z] at h1
    cases h1
  n23 := by
    obtain ⟨_, h1⟩ := He.ba (He.ba x3).2
    intro z
    rw [decide_eq_true z] at h1
    cases h1
end
end K20
end
section
set_option linter.all false
set_option maxRecDepth 100000
set_option maxHeartbeats 4000000
set_option autoImplicit false
namespace K20
open PySem PySem.Spec PyProof.Rows L2 LamX NdefX
theorem sqL_vw {K : PySem.W.Frag} {m : Md} {H : Hp} {a : Addr} {xs : List V} (hn : ∀ b, ¬ m.at b) (h : SqL K H a xs) : SqL K (m.vw H) a xs := by
  rcases h with (h | ⟨o, h⟩) | h
  · exact .inl (.inl (vw_of h rfl (hn a)))
  · exact .inl (.inr ⟨o, vw_of h rfl (hn a)⟩)
  · exact .inr h
theorem law_at {w : World} {K : PySem.W.Frag} {h : Heap} {mg : Str → Option Value} {fa : Addr} (X : K.In h) (N : h.Ns mainGlobals mg) (hfa : mg ("law" : Str) = some (.ref fa)) (c : He.SaysX fas fns [] tfs exT w h K) :
    LawAtS PySem.Challenge.rw_staletags_k20_whole_unseeing_keepers_and w K CX0 9 63 "_law_script" mg fa h := by
  have cd := c.t.d
  have T := top_of X N cd
  obtain ⟨f, fd, F, hm⟩ := T.d_law.ex
  have e : f = fa := by
    rw [hm] at hfa
    cases hfa
    rfl
  subst e
  have b := FunD.bindsA (ps := ["_law_script"]) F fun _ _ _ _ _ _ us hl => match us, hl with | [_], _ => rfl
  refine ⟨fd, tfs.map (He.cT K), spLaw K (tabD K "blindly") (tabD K "in_turn") (tabD K "_law_unseeing"), fun p hp => ?_, fun p hp => ?_, fun p hp => ?_, fun s u => b s [u] rfl, fun H a ns _ _ hH hS => ?_, fun base hb hns ht => ?_⟩
  · obtain ⟨q, hq, rfl⟩ := List.mem_map.mp hp
    exact c.empty q hq
  · obtain ⟨q, hq, rfl⟩ := List.mem_map.mp hp
    exact c.out q hq
  · obtain ⟨q, hq, rfl⟩ := List.mem_map.mp hp
    exact PySem.W.codeHd_of_K X (c.hd q hq)
  · have hn : ∀ b, ¬ (⟨T20 (tabD K "blindly") (tabD K "in_turn") (tabD K "_law_unseeing"), none, []⟩ : Md).at b := fun b z => by
      rcases z with ⟨_, _, z⟩ | z
      · cases z
      · cases z
    have hp : ∀ x : Str, (x, none) ∈ tfs → H (tabD K x) = some (.tbl #[]) := fun x hx => hH _ (List.mem_map.mpr ⟨_, hx, rfl⟩)
    refine ⟨⟨T20 (tabD K "blindly") (tabD K "in_turn") (tabD K "_law_unseeing"), none, []⟩, .ref a, ns, rfl, ⟨fun p hp' => ?_, fun _ _ _ z => (by cases z), fun _ z => (by cases z), fun _ z => (by cases z)⟩, rfl, rfl, ⟨a, _, rfl, .inl (sqL_vw hn hS), ints_dpAll ns⟩, fun _ => rfl⟩
    have hq : H p.1 = some (.tbl #[]) := by
      rcases List.mem_cons.mp hp' with rfl | hp'
      · exact hp "blindly" (by simp [tfs])
      rcases List.mem_cons.mp hp' with rfl | hp'
      · exact hp "in_turn" (by simp [tfs])
      · obtain rfl := List.mem_singleton.mp hp'
        exact hp "_law_unseeing" (by simp [tfs])
    refine ⟨#[], hq, ?_, fun pos cv hc => ?_⟩
    · first
        | exact True.intro
        | constructor
        | decide
    · exact absurd hc (by
        first
          | exact nofun
          | simp [PySem.codeAmong])
  · exact ok_law T (mks_of X N cd c.more ht) F
end K20
end
open PySem PySem.W PySem.Calls PyProof.Rows
set_option maxRecDepth 100000 in
set_option maxHeartbeats 8000000 in
theorem PySem.Challenge.cw_staletags_k20_whole_unseeing_keepers_and_holds : PySem.Challenge.rw_staletags_k20_whole_unseeing_keepers_and.Holds := by
  w_on; o_law
  refine HandSHeadRun.head_any (r := OpenLaw.row PySem.Challenge.rw_staletags_k20_whole_unseeing_keepers_and) (q := view (OpenLaw.row PySem.Challenge.rw_staletags_k20_whole_unseeing_keepers_and).prog [65]) (H := K20.hk3) (ob := K20.ob3) (M := 20000) (loose := K20.loose) (d := HandSHeadRun.topDef (OpenLaw.row PySem.Challenge.rw_staletags_k20_whole_unseeing_keepers_and).prog 65) (kwd := []) K20.ob3_eq
    (by kernel_rfl) (fun s => by kernel_rfl) K20.headrun3 (by kernel_rfl) (by kernel_rfl) (by kernel_rfl) (by rfl) (by first | assumption | decide +kernel) (by decide +kernel) ⟨rfl, rfl, rfl, rfl, rfl, by decide +kernel⟩ ?hw ?hc
  case hw => w_witness2
  case hc =>
    refine LamX.walk_ofTsE (l := PySem.Challenge.rw_staletags_k20_whole_unseeing_keepers_and) (n := 63) (k := 9) (x := "_law_script") (CX := fun _ => L2.CX0) rfl (by decide) (by kernel_rfl) ⟨rfl, by decide, by decide⟩ ?F (fun _ _ _ _ _ z => z)
    intro w mg fa h Y G hmg0
    obtain ⟨K, KX, c⟩ := Y
    have hmg : mg ("law" : PySem.Str) = some (.ref fa) := by
      have e : (HandSHeadRun.topDef (OpenLaw.row PySem.Challenge.rw_staletags_k20_whole_unseeing_keepers_and).prog 65).name = ("law" : PySem.Str) := by kernel_rfl
      rw [← e]
      exact hmg0
    exact ⟨K, KX, K20.law_at KX G hmg c⟩
