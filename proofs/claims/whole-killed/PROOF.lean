import PyProof.Rows.All
import Wide.All
import OpenK.AllK
import Wide.FinOn
import KE.KStateDown
import Lean
import HandS.ForMost
import HandS.Defaults
import HandS.Slots
import HandS.Head0
import HandS.Head1
import HandS.Head2
import HandS.HeadEnd
import HandS.HeadHook1
import HandS.HeadHook2
import KE.GoesEnum
import KE.GoesZip
import HandS.Zip
import KE.KTurns
import PyProof.Rows.SortShell
import HandS.Sort
import HandS.SortInts
import HandS.SortRule
import HandS.TupAny
import HandS.IsInst
import HandS.Star
import PyProof.ReprRoads
import PyProof.CallFns
import HandS.More
import HandS.Walk
import HandS.Conv
import HandS.Codes
import HandS.Wide
import HandS.Style
import PyProof.EqLayable
import PyProof.P3Eq
import PyProof.ReprLen
import PySem.Challenge.RW_whilemoved_k12_whole_killed_at_each_mome
set_option Elab.async false
set_option linter.all false
set_option maxRecDepth 100000
set_option maxHeartbeats 0
namespace Wm
open PySem PySem.Spec PyProof.Rows L2
def topS (i : Nat) : Stmt := PySem.Challenge.pw_whilemoved_k12_whole_killed_at_each_mome.main.body.getD i (.Pass ⟨0, 0, 0, 0⟩)
def mtS (i : Nat) : Stmt := inClass (topS 25) i

abbrev s_is_integer : Stmt := topS 9
abbrev s_is_below : Stmt := topS 10
abbrev s_is_needs : Stmt := topS 11
abbrev s_is_layout : Stmt := topS 12
abbrev s_is_right : Stmt := topS 13
abbrev s_is_task : Stmt := topS 14
abbrev s_is_lot : Stmt := topS 15
abbrev s_is_copy : Stmt := topS 16
abbrev s_is_stretch : Stmt := topS 17
abbrev s_is_plan : Stmt := topS 18
abbrev s_places_of : Stmt := topS 20
abbrev s_can_be_done : Stmt := topS 21
abbrev s_led : Stmt := topS 22
abbrev s_does : Stmt := topS 23
abbrev s_going_on : Stmt := topS 27
abbrev s_shown : Stmt := topS 28
abbrev s_readers : Stmt := topS 29
abbrev s_untold : Stmt := topS 30
abbrev s_left_to_write : Stmt := topS 31
abbrev s_law_bag : Stmt := topS 33
abbrev s_law_take : Stmt := topS 34
abbrev s_law_some : Stmt := topS 35
abbrev s_law_mixed : Stmt := topS 36
abbrev s_law_alike : Stmt := topS 37
abbrev s_law_standings : Stmt := topS 38
abbrev s_law_rooms : Stmt := topS 39
abbrev s_law_is_right : Stmt := topS 40
abbrev s_law_with_room : Stmt := topS 41
abbrev s_law_led : Stmt := topS 42
abbrev s_law_is_safe : Stmt := topS 43
abbrev s_law_is_wanted : Stmt := topS 44
abbrev s_law_needs : Stmt := topS 45
abbrev s_law_spread : Stmt := topS 46
abbrev s_law_fit_needs : Stmt := topS 47
abbrev s_law_any_task : Stmt := topS 48
abbrev s_law_rings : Stmt := topS 49
abbrev s_law_even_task : Stmt := topS 50
abbrev s_law_parted_task : Stmt := topS 51
abbrev s_law_stayed_task : Stmt := topS 52
abbrev s_law_any_stretch : Stmt := topS 53
abbrev s_law_met : Stmt := topS 54
abbrev s_law_led_task : Stmt := topS 55
abbrev s_law_beside : Stmt := topS 56
abbrev s_law_task : Stmt := topS 57
abbrev s_law_source_of : Stmt := topS 58
abbrev s_law_next_copies : Stmt := topS 59
abbrev s_law_made_plan : Stmt := topS 60
abbrev s_law_joined_plan : Stmt := topS 61
abbrev s_law_layouts : Stmt := topS 62
abbrev s_law_some_plan : Stmt := topS 63
abbrev s_law_safe_doing : Stmt := topS 64
abbrev s_law_with : Stmt := topS 65
abbrev s_law_is_readable : Stmt := topS 66
abbrev s_law_written : Stmt := topS 67
abbrev s_law_is_walked : Stmt := topS 68
abbrev s_law : Stmt := topS 69
abbrev m_init : Stmt := mtS 1
abbrev m_state : Stmt := mtS 3
abbrev m_keep : Stmt := mtS 4
abbrev m_places : Stmt := mtS 5
abbrev m_tell : Stmt := mtS 6
abbrev m_drop_whole : Stmt := mtS 7
abbrev m_check_place : Stmt := mtS 8
abbrev m_write : Stmt := mtS 9
abbrev m_spoil : Stmt := mtS 10
abbrev m_cut : Stmt := mtS 11
abbrev m_left : Stmt := mtS 13
abbrev m_mark : Stmt := mtS 14
abbrev m_turn : Stmt := mtS 15
def fn : List He.DefD := [
  ⟨("is_integer", none), "is_integer", "is_integer", defArgs s_is_integer, defBody s_is_integer, defScope s_is_integer, [], []⟩,
  ⟨("is_below", none), "is_below", "is_below", defArgs s_is_below, defBody s_is_below, defScope s_is_below, [], []⟩,
  ⟨("is_needs", none), "is_needs", "is_needs", defArgs s_is_needs, defBody s_is_needs, defScope s_is_needs, [], []⟩,
  ⟨("is_layout", none), "is_layout", "is_layout", defArgs s_is_layout, defBody s_is_layout, defScope s_is_layout, [], []⟩,
  ⟨("is_right", none), "is_right", "is_right", defArgs s_is_right, defBody s_is_right, defScope s_is_right, [], []⟩,
  ⟨("is_task", none), "is_task", "is_task", defArgs s_is_task, defBody s_is_task, defScope s_is_task, [], []⟩,
  ⟨("is_lot", none), "is_lot", "is_lot", defArgs s_is_lot, defBody s_is_lot, defScope s_is_lot, [], []⟩,
  ⟨("is_copy", none), "is_copy", "is_copy", defArgs s_is_copy, defBody s_is_copy, defScope s_is_copy, [], []⟩,
  ⟨("is_stretch", none), "is_stretch", "is_stretch", defArgs s_is_stretch, defBody s_is_stretch, defScope s_is_stretch, [], []⟩,
  ⟨("is_plan", none), "is_plan", "is_plan", defArgs s_is_plan, defBody s_is_plan, defScope s_is_plan, [], []⟩,
  ⟨("places_of", none), "places_of", "places_of", defArgs s_places_of, defBody s_places_of, defScope s_places_of, [], []⟩,
  ⟨("can_be_done", none), "can_be_done", "can_be_done", defArgs s_can_be_done, defBody s_can_be_done, defScope s_can_be_done, [], []⟩,
  ⟨("led", none), "led", "led", defArgs s_led, defBody s_led, defScope s_led, [], []⟩,
  ⟨("does", none), "does", "does", defArgs s_does, defBody s_does, defScope s_does, [], []⟩,
  ⟨("going_on", none), "going_on", "going_on", defArgs s_going_on, defBody s_going_on, defScope s_going_on, [], []⟩,
  ⟨("shown", none), "shown", "shown", defArgs s_shown, defBody s_shown, defScope s_shown, [], []⟩,
  ⟨("readers", none), "readers", "readers", defArgs s_readers, defBody s_readers, defScope s_readers, [], []⟩,
  ⟨("untold", none), "untold", "untold", defArgs s_untold, defBody s_untold, defScope s_untold, [], []⟩,
  ⟨("left_to_write", none), "left_to_write", "left_to_write", defArgs s_left_to_write, defBody s_left_to_write, defScope s_left_to_write, [], []⟩,
  ⟨("_law_bag", none), "_law_bag", "_law_bag", defArgs s_law_bag, defBody s_law_bag, defScope s_law_bag, [], []⟩,
  ⟨("_law_take", none), "_law_take", "_law_take", defArgs s_law_take, defBody s_law_take, defScope s_law_take, [], []⟩,
  ⟨("_law_some", none), "_law_some", "_law_some", defArgs s_law_some, defBody s_law_some, defScope s_law_some, [], []⟩,
  ⟨("_law_mixed", none), "_law_mixed", "_law_mixed", defArgs s_law_mixed, defBody s_law_mixed, defScope s_law_mixed, [], []⟩,
  ⟨("_law_alike", none), "_law_alike", "_law_alike", defArgs s_law_alike, defBody s_law_alike, defScope s_law_alike, [], []⟩,
  ⟨("_law_standings", none), "_law_standings", "_law_standings", defArgs s_law_standings, defBody s_law_standings, defScope s_law_standings, [], []⟩,
  ⟨("_law_rooms", none), "_law_rooms", "_law_rooms", defArgs s_law_rooms, defBody s_law_rooms, defScope s_law_rooms, [], []⟩,
  ⟨("_law_is_right", none), "_law_is_right", "_law_is_right", defArgs s_law_is_right, defBody s_law_is_right, defScope s_law_is_right, [], []⟩,
  ⟨("_law_with_room", none), "_law_with_room", "_law_with_room", defArgs s_law_with_room, defBody s_law_with_room, defScope s_law_with_room, [], []⟩,
  ⟨("_law_led", none), "_law_led", "_law_led", defArgs s_law_led, defBody s_law_led, defScope s_law_led, [], []⟩,
  ⟨("_law_is_safe", none), "_law_is_safe", "_law_is_safe", defArgs s_law_is_safe, defBody s_law_is_safe, defScope s_law_is_safe, [], []⟩,
  ⟨("_law_is_wanted", none), "_law_is_wanted", "_law_is_wanted", defArgs s_law_is_wanted, defBody s_law_is_wanted, defScope s_law_is_wanted, [], []⟩,
  ⟨("_law_needs", none), "_law_needs", "_law_needs", defArgs s_law_needs, defBody s_law_needs, defScope s_law_needs, [], []⟩,
  ⟨("_law_spread", none), "_law_spread", "_law_spread", defArgs s_law_spread, defBody s_law_spread, defScope s_law_spread, [], []⟩,
  ⟨("_law_fit_needs", none), "_law_fit_needs", "_law_fit_needs", defArgs s_law_fit_needs, defBody s_law_fit_needs, defScope s_law_fit_needs, [], []⟩,
  ⟨("_law_any_task", none), "_law_any_task", "_law_any_task", defArgs s_law_any_task, defBody s_law_any_task, defScope s_law_any_task, [], []⟩,
  ⟨("_law_rings", none), "_law_rings", "_law_rings", defArgs s_law_rings, defBody s_law_rings, defScope s_law_rings, [], []⟩,
  ⟨("_law_even_task", none), "_law_even_task", "_law_even_task", defArgs s_law_even_task, defBody s_law_even_task, defScope s_law_even_task, [], []⟩,
  ⟨("_law_parted_task", none), "_law_parted_task", "_law_parted_task", defArgs s_law_parted_task, defBody s_law_parted_task, defScope s_law_parted_task, [], []⟩,
  ⟨("_law_stayed_task", none), "_law_stayed_task", "_law_stayed_task", defArgs s_law_stayed_task, defBody s_law_stayed_task, defScope s_law_stayed_task, [], []⟩,
  ⟨("_law_any_stretch", none), "_law_any_stretch", "_law_any_stretch", defArgs s_law_any_stretch, defBody s_law_any_stretch, defScope s_law_any_stretch, [], []⟩,
  ⟨("_law_met", none), "_law_met", "_law_met", defArgs s_law_met, defBody s_law_met, defScope s_law_met, [], []⟩,
  ⟨("_law_led_task", none), "_law_led_task", "_law_led_task", defArgs s_law_led_task, defBody s_law_led_task, defScope s_law_led_task, [], []⟩,
  ⟨("_law_beside", none), "_law_beside", "_law_beside", defArgs s_law_beside, defBody s_law_beside, defScope s_law_beside, [], []⟩,
  ⟨("_law_task", none), "_law_task", "_law_task", defArgs s_law_task, defBody s_law_task, defScope s_law_task, [], []⟩,
  ⟨("_law_source_of", none), "_law_source_of", "_law_source_of", defArgs s_law_source_of, defBody s_law_source_of, defScope s_law_source_of, [], []⟩,
  ⟨("_law_next_copies", none), "_law_next_copies", "_law_next_copies", defArgs s_law_next_copies, defBody s_law_next_copies, defScope s_law_next_copies, [], []⟩,
  ⟨("_law_made_plan", none), "_law_made_plan", "_law_made_plan", defArgs s_law_made_plan, defBody s_law_made_plan, defScope s_law_made_plan, [], []⟩,
  ⟨("_law_joined_plan", none), "_law_joined_plan", "_law_joined_plan", defArgs s_law_joined_plan, defBody s_law_joined_plan, defScope s_law_joined_plan, [], []⟩,
  ⟨("_law_layouts", none), "_law_layouts", "_law_layouts", defArgs s_law_layouts, defBody s_law_layouts, defScope s_law_layouts, [], []⟩,
  ⟨("_law_some_plan", none), "_law_some_plan", "_law_some_plan", defArgs s_law_some_plan, defBody s_law_some_plan, defScope s_law_some_plan, [], []⟩,
  ⟨("_law_safe_doing", none), "_law_safe_doing", "_law_safe_doing", defArgs s_law_safe_doing, defBody s_law_safe_doing, defScope s_law_safe_doing, [], []⟩,
  ⟨("_law_with", none), "_law_with", "_law_with", defArgs s_law_with, defBody s_law_with, defScope s_law_with, [], []⟩,
  ⟨("_law_is_readable", none), "_law_is_readable", "_law_is_readable", defArgs s_law_is_readable, defBody s_law_is_readable, defScope s_law_is_readable, [], []⟩,
  ⟨("_law_written", none), "_law_written", "_law_written", defArgs s_law_written, defBody s_law_written, defScope s_law_written, [], []⟩,
  ⟨("_law_is_walked", none), "_law_is_walked", "_law_is_walked", defArgs s_law_is_walked, defBody s_law_is_walked, defScope s_law_is_walked, [], []⟩,
  ⟨("law", none), "law", "law", defArgs s_law, defBody s_law, defScope s_law, [], []⟩,
  ⟨("Store", some "__init__"), "__init__", "Store.__init__", defArgs m_init, defBody m_init, defScope m_init, [], []⟩,
  ⟨("Store", some "state"), "state", "Store.state", defArgs m_state, defBody m_state, defScope m_state, [], []⟩,
  ⟨("Store", some "keep"), "keep", "Store.keep", defArgs m_keep, defBody m_keep, defScope m_keep, [], []⟩,
  ⟨("Store", some "places"), "places", "Store.places", defArgs m_places, defBody m_places, defScope m_places, [], []⟩,
  ⟨("Store", some "tell"), "tell", "Store.tell", defArgs m_tell, defBody m_tell, defScope m_tell, [], []⟩,
  ⟨("Store", some "drop_whole"), "drop_whole", "Store.drop_whole", defArgs m_drop_whole, defBody m_drop_whole, defScope m_drop_whole, [], []⟩,
  ⟨("Store", some "check_place"), "check_place", "Store.check_place", defArgs m_check_place, defBody m_check_place, defScope m_check_place, [], []⟩,
  ⟨("Store", some "write"), "write", "Store.write", defArgs m_write, defBody m_write, defScope m_write, [], []⟩,
  ⟨("Store", some "spoil"), "spoil", "Store.spoil", defArgs m_spoil, defBody m_spoil, defScope m_spoil, [], []⟩,
  ⟨("Store", some "cut"), "cut", "Store.cut", defArgs m_cut, defBody m_cut, defScope m_cut, [], []⟩,
  ⟨("Store", some "left"), "left", "Store.left", defArgs m_left, defBody m_left, defScope m_left, [], []⟩,
  ⟨("Store", some "mark"), "mark", "Store.mark", defArgs m_mark, defBody m_mark, defScope m_mark, [], []⟩,
  ⟨("Store", some "turn"), "turn", "Store.turn", defArgs m_turn, defBody m_turn, defScope m_turn, [], []⟩]
def fa : List He.Fa := [.glo "is_integer", .glo "is_below", .glo "is_needs", .glo "is_layout", .glo "is_right", .glo "is_task", .glo "is_lot", .glo "is_copy", .glo "is_stretch", .glo "is_plan", .glo "places_of", .glo "can_be_done", .glo "led", .glo "does", .glo "going_on", .glo "shown", .glo "readers", .glo "untold", .glo "left_to_write", .glo "_law_bag", .glo "_law_take", .glo "_law_some", .glo "_law_mixed", .glo "_law_alike", .glo "_law_standings", .glo "_law_rooms", .glo "_law_is_right", .glo "_law_with_room", .glo "_law_led", .glo "_law_is_safe", .glo "_law_is_wanted", .glo "_law_needs", .glo "_law_spread", .glo "_law_fit_needs", .glo "_law_any_task", .glo "_law_rings", .glo "_law_even_task", .glo "_law_parted_task", .glo "_law_stayed_task", .glo "_law_any_stretch", .glo "_law_met", .glo "_law_led_task", .glo "_law_beside", .glo "_law_task", .glo "_law_source_of", .glo "_law_next_copies", .glo "_law_made_plan", .glo "_law_joined_plan", .glo "_law_layouts", .glo "_law_some_plan", .glo "_law_safe_doing", .glo "_law_with", .glo "_law_is_readable", .glo "_law_written", .glo "_law_is_walked", .glo "law", .glo "Store", .mkr "Store", .meth "Store" "__init__", .meth "Store" "state", .meth "Store" "keep", .meth "Store" "places", .meth "Store" "tell", .meth "Store" "drop_whole", .meth "Store" "check_place", .meth "Store" "write", .meth "Store" "spoil", .meth "Store" "cut", .meth "Store" "left", .meth "Store" "mark", .meth "Store" "turn", .free "len", .free "range", .free "isinstance", .free "int", .free "bool", .free "tuple", .free "all", .free "enumerate", .free "zip", .free "list", .free "sorted", .free "min", .free "max", .free "abs", .free "repr", .free "sum", .free "set"]

/-- the slot of the class at C -/
def slB (K : PySem.W.Frag) (C : Addr) (f : Str) (i : Nat) : Bool := match PySem.W.findIn K (.ref C) f with
  | some (some (.ref p)) => He.eqO (PySem.W.specialIn K (.ref p) "__get__") (some (some (.builtin "member_descriptor.__get__"))) && (decide (PySem.W.takesIn K (.ref p) = some true) && (decide (PySem.W.typeIn K (.ref p) = some (.type "member_descriptor")) && decide (PySem.W.slotIn K p C = some i)))
  | _ => false
theorem slB_ok {K : PySem.W.Frag} {C : Addr} {f : Str} {i : Nat} (h : slB K C f i = true) (hi : i < 1000) : ∃ p, SlX.Slot1 K C f p i := by
  unfold slB at h
  split at h
  · rename_i p e
    obtain ⟨h1, h⟩ := He.ba h
    obtain ⟨h2, h⟩ := He.ba h
    obtain ⟨h3, h4⟩ := He.ba h
    exact ⟨p, e, He.eqO_ok h1, of_decide_eq_true h2, of_decide_eq_true h3, of_decide_eq_true h4, hi⟩
  · cases h
def scB (K : PySem.W.Frag) (C : Addr) : Bool := PySem.W.plainGet K C Str.empty && (PySem.W.isClsIn K C && (PySem.W.plainOver K C && He.eqO (PySem.W.findIn K (.ref C) "__setattr__") (some (some (.builtin "object.__setattr__")))))
theorem scB_ok {K : PySem.W.Frag} {C : Addr} (h : scB K C = true) : SlX.SCls K C := by
  obtain ⟨h1, h⟩ := He.ba h
  obtain ⟨h2, h⟩ := He.ba h
  obtain ⟨h3, h4⟩ := He.ba h
  exact ⟨h1, h2, h3, He.eqO_ok h4⟩
def slots : List Str := ["its_index", "its_layouts", "its_lost", "its_past", "its_plan", "its_task", "its_told", "its_way", "its_whole"]
def exB (K : PySem.W.Frag) : Bool := scB K (He.ga K "Store") && ((List.range 9).all fun i => slB K (He.ga K "Store") (slots.getD i "") i)


abbrev Ob : Type := He.AlD × Bool
def obsW (n : Nat) (g : Addr → Option Obj) : Ob := (He.obsD fa fn (He.frG g (He.asD g n)), exB (He.frG g (He.asD g n)))
def valW : Ob := (He.valD fn, true)
def hkW (n : Nat) : PySem.W.Hook where
  α := Ob
  obs := fun s => obsW n s.heap.get?
  val := fun _ => valW
  says := fun _ h => ∃ K : PySem.W.Frag, K.In h ∧ He.SaysD fa fn K ∧ exB K = true
  of := fun _ _ e => ⟨_, He.frG_in, congrArg (fun z : Ob => z.1) e, congrArg (fun z : Ob => z.2) e⟩
  keeps := fun _ _ _ ⟨K, hK, c⟩ k => ⟨K, PySem.W.Frag.In.keeps hK k, c⟩
abbrev R : PySem.W.OpenRow := PySem.W.OpenLaw.row PySem.Challenge.rw_whilemoved_k12_whole_killed_at_each_mome
abbrev hk : PySem.W.Hook := hkW 5
def ob (s : PySem.W.SharedT) : Ob := obsW 5 (HandSHeadRun.getT s)
theorem ob_eq (s : PySem.W.SharedT) : ob s = hk.obs s.abs := by
  have e : HandSHeadRun.getT s = s.abs.heap.get? := funext (HandSHeadRun.getT_eq s)
  show obsW 5 (HandSHeadRun.getT s) = obsW 5 s.abs.heap.get?
  rw [e]

def loose1 : List Str := ["_wall", "MoveError", "NoPlace", "NoSource", "NotDone", "Nothing", "Wrong", "is_integer", "is_below", "is_needs", "is_layout", "is_right", "is_task", "is_lot", "is_copy", "is_stretch", "is_plan", "places_of", "can_be_done", "led", "does", "Store", "going_on", "shown", "readers", "untold", "left_to_write", "_law_bag", "_law_take", "_law_some", "_law_mixed", "_law_alike"]
def loose2 : List Str := ["_law_standings", "_law_rooms", "_law_is_right", "_law_with_room", "_law_led", "_law_is_safe", "_law_is_wanted", "_law_needs", "_law_spread", "_law_fit_needs", "_law_any_task", "_law_rings", "_law_even_task", "_law_parted_task", "_law_stayed_task", "_law_any_stretch", "_law_met", "_law_led_task", "_law_beside", "_law_task", "_law_source_of", "_law_next_copies", "_law_made_plan", "_law_joined_plan", "_law_layouts", "_law_some_plan", "_law_safe_doing", "_law_with", "_law_is_readable", "_law_written", "_law_is_walked"]
def loose : List Str := loose1 ++ loose2

theorem run (w : World) : HandSHeadRun.RunEq R (PySem.W.view R.prog [69]) hk ob 4500 loose w := by
  intro os
  kernel_rfl
end Wm

set_option Elab.async false
set_option linter.all false
set_option maxRecDepth 100000
set_option maxHeartbeats 4000000
/-! enumerate of a tuple, zip of a list and a tuple, a walk over a list or a tuple -/
namespace Wm
open PySem PySem.Spec PyProof.Rows L2
set_option maxHeartbeats 4000000 in
theorem meets_enum1 {v : Value} {o : Obj} {H : Heap → Prop} (B : Begins v o H) :
    Meets (Builtin.«enumerate.__new__» ⟨[.type "enumerate", v], []⟩) (fun _ R s => H s.heap ∧
      R (.ok (.ret (.ref (s.heap.push o).objs.size))) { s with heap := (s.heap.push o).push { cls := .type "enumerate", data := .fields #[.none, .bool false, .ref s.heap.objs.size, rawInt 0, .none, .none] } }) :=
  .of_wp fun prog w A R s h => by
    obtain ⟨hp, g, d, tk, os⟩ := s; obtain ⟨h1, h⟩ := h
    have hsub := sub_enumerate
    have q1 : ∀ {A' : Around} {E : Value → Shared → Prop} {Q : Value → Shared → Prop}, Q (.ref hp.objs.size) ⟨hp.push o, g, d, tk, os⟩ → wpAny (model prog w) A' (pyIter v) Q E ⟨hp, g, d, tk, os⟩ :=
      fun q => B.iter prog w _ _ ⟨hp, g, d, tk, os⟩ _ h1 q
    wp_walk using q1
    refine wpAny_stack_any fun st => wpAny_pure ?_
    split
    · rename_i c _ _ _ _ _
      cases (c == Value.type "enumerate")
      · wp_walk using q1
        exact ⟨_, rfl, h⟩
      · wp_walk using q1
        exact ⟨_, rfl, h⟩
    · wp_walk using q1
      exact ⟨_, rfl, h⟩
theorem enum_begins1 {prog : Program} {w : World} {A : Around} {E : Value → Shared → Prop} {s : Shared} {v : Value} {o : Obj} {H : Heap → Prop} {Q : Value → Shared → Prop} (B : Begins v o H) (h1 : H s.heap)
    (h : ∀ h', IsEnum h' (s.heap.objs.size + 1) s.heap.objs.size 0 .none → h'.get? s.heap.objs.size = some o → h'.objs.size = s.heap.objs.size + 2 →
      (∀ b o, s.heap.get? b = some o → h'.get? b = some o) → Q (.ref (s.heap.objs.size + 1)) { s with heap := h' }) :
    wpAny (model prog w) A (call (.type "enumerate") [v]) Q E s := by
  refine callType_new F.called_enumerate (by decide) (F.typeCall_enumerate_1 _) (F.newCall_enumerate_1 _) (fun obj => F.args_object_init_2 obj _) F.entry_enumerate_new
    (meets_enum1 B) ⟨h1, ?_⟩
  have hz : (s.heap.push o).objs.size = s.heap.objs.size + 1 := Heap.size_push ..
  show _ ∧ _
  rw [hz]
  have he : IsEnum ((s.heap.push o).push { cls := .type "enumerate", data := .fields #[.none, .bool false, .ref s.heap.objs.size, rawInt 0, .none, .none] }) (s.heap.objs.size + 1) s.heap.objs.size 0 .none := by
    have := Heap.get?_push_size (s.heap.push o) (o := { cls := .type "enumerate", data := .fields #[.none, .bool false, .ref s.heap.objs.size, rawInt 0, .none, .none] }) rfl
    rw [hz] at this; exact this
  refine ⟨⟨_, he, rfl⟩, h _ he (Heap.get?_push_of_some _ (Heap.get?_push_size _ B.free)) (by rw [Heap.size_push, hz]) fun b o x => Heap.get?_push_of_some _ (Heap.get?_push_of_some _ x)⟩
/-- the tuple at a as it stands at each turn, each item in a new pair -/
def Itu (K : PySem.W.Frag) (a : Addr) : It :=
  ⟨fun i H => ∃ (xs : List V) (x : V), SqT K H a xs ∧ xs[i]? = some x, fun i H v H' => ∃ T x, v = .ref T ∧ H T = none ∧ H' = upd H T (.tup [.int (i : Nat), x]) ∧ ∀ xs, SqT K H a xs → xs[i]? = some x, fun i H => ∃ xs : List V, SqT K H a xs ∧ xs.length = i⟩
theorem turn_enumT {P : Program} {w : World} {K : PySem.W.Frag} {elts : List Expr} {kk : Nat} {tpos : Pos} (a e it : Addr) :
    Turn P w K (.Tuple elts kk tpos) (Itu K a) [e, it] e (fun i h => (∃ old, IsEnum h e it ((i : Nat) : Int) old) ∧ h.IsTupleIter it a i ∧ e ≠ it) where
  mem := by simp
  obj := fun i h st b hb => by
    obtain ⟨⟨old, he⟩, ⟨o, ho, hc, hd⟩, _⟩ := st
    have e' : b = e ∨ b = it := by simpa using hb
    rcases e' with z | z
    · rw [z]; exact ⟨_, he, fun v q => nomatch q⟩
    · rw [z]; exact ⟨o, ho, fun v q => by rw [hd] at q; cases q⟩
  keep := fun i h h' st k => let ⟨⟨old, he⟩, hi, hne⟩ := st; ⟨⟨old, k e (by simp) _ he⟩, hi.at fun o q => k it (by simp) o q, hne⟩
  item := by
    intro X hP hw hK hc i pins s σ H E I hf st hg
    subst hP hw hK
    obtain ⟨⟨old, he⟩, hit, hne⟩ := st
    obtain ⟨xs, x, hq, hx⟩ := hg
    obtain ⟨its, rv, p, hz⟩ := I.tuple hq
    obtain ⟨u, hu, ru⟩ := rv.get hx
    have hel : e < s.heap.objs.size := Heap.lt_size he
    have hil : it < s.heap.objs.size := by obtain ⟨_, q, _⟩ := hit; exact Heap.lt_size q
    have hai : a ≠ it := fun z => by
      obtain ⟨o1, e1, c1, _⟩ := hit
      obtain ⟨o2, e2, c2, _⟩ := p
      rw [z, e1] at e2
      cases e2
      rw [c1] at c2
      injection c2 with c3; exact absurd c3 (by decide)
    have hea : e ≠ a := fun z => by
      obtain ⟨o2, e2, c2, _⟩ := p
      have he' : s.heap.get? e = some _ := he
      rw [z, e2] at he'
      cases he'
      injection c2 with c3; exact absurd c3 (by decide)
    have hun : ∀ u', its.toArray[i]? = some u' → u' = u := fun u' h1 => by
      rw [List.getElem?_toArray, hu] at h1
      exact (Option.some.inj h1).symm
    refine wpAny_pyNext_enum_itemC (Draws.tuple (A := X.A.in1) (I.ok.hd hc) it a hai its.toArray) he ⟨hit, p⟩ (by have h9 := (List.getElem?_eq_some_iff.mp hu).1; simpa using h9) hne (by simp only [List.mem_cons, List.not_mem_nil, or_false, not_or]; exact ⟨hne, hea⟩) fun u' h' tk hPx ho hst hT hsz hk => ?_
    obtain rfl := hun u' hPx
    refine ⟨_, rfl, wpAny_letOwnedTupleGo_enum (s := { s with heap := h', toks := tk + 1 }) ho fun h'' he' sb => ?_⟩
    have hT2 : h''.get? s.heap.objs.size = some { cls := .type "tuple", data := .seq #[.int i tk, u'] } := (sb.2 _ (Nat.ne_of_gt hel)).trans hT
    have new : ObjOk X.prog X.w (upd H s.heap.objs.size (.tup [.int (i : Nat), x])) h'' s.heap.objs.size (.tup [.int (i : Nat), x]) :=
      ⟨by show 2 ≤ sizeLine; decide, [.int i tk, u'], .cons ⟨_, rfl⟩ (.cons ru .nil), ⟨_, hT2, rfl, _, rfl⟩⟩
    have I1 : Inv X pins σ (upd H s.heap.objs.size (.tup [.int (i : Nat), x])) { s with heap := h'', toks := tk + 1 } :=
      I.turnedNew (ch := [e, it]) (fun b ob hb q => (sb.2 b (fun z => hb (by simp [z]))).trans (hk b ob (fun z => hb (by simp [z])) (fun z => hb (by simp [z])) q)) hf (Nat.le_refl _) new
    refine ⟨.ref s.heap.objs.size, _, I1, rfl, ⟨_, x, rfl, I.hok.fresh (Nat.le_refl _), rfl, fun ys hy => by rw [I.tuple_inj hy hq]; exact hx⟩, ⟨⟨u', ?_⟩, hst.1.at fun o q => (sb.2 it (Ne.symm hne)).trans q, hne⟩, fun b hb => ?_⟩
    · have e1 : ((i + 1 : Nat) : Int) = (i : Int) + 1 := by omega
      rw [e1]; exact he'
    · have hb' : b < s.heap.objs.size := by
        have e' : b = e ∨ b = it := by simpa using hb
        rcases e' with z | z
        · rw [z]; exact hel
        · rw [z]; exact hil
      rw [upd_ne (Nat.ne_of_lt hb')]
      exact (hf b hb).1
  done := by
    intro X hP hw hK hc i pins s σ H E I hf st hg
    subst hP hw hK
    obtain ⟨⟨old, he⟩, hit, hne⟩ := st
    obtain ⟨xs, hq, hx⟩ := hg
    obtain ⟨its, rv, p, hz⟩ := I.tuple hq
    obtain ⟨f0, f1, f2, f3, f4, f5⟩ := hf it (by simp)
    have hl := rv.length
    have hai : a ≠ it := fun z => by
      obtain ⟨o1, e1, c1, _⟩ := hit
      obtain ⟨o2, e2, c2, _⟩ := p
      rw [z, e1] at e2
      cases e2
      rw [c1] at c2
      injection c2 with c3; exact absurd c3 (by decide)
    have hi : its.toArray.size = i := by simp; omega
    exact wpAny_pyNext_enum_endD (Draws.tuple (A := X.A.in1) (I.ok.hd hc) it a hai its.toArray) he (by rw [hi]; exact ⟨hit, p⟩) fun h' eb => ⟨rfl, I.turned (t' := s.toks) (fun b o hb q => eb b o hb q) f0 f1 f3 f4 f5⟩
  self := fun A i s Q E st h => let ⟨⟨_, he⟩, _⟩ := st; wpAny_pyIter_enum he h
def iEnumT (K : PySem.W.Frag) (ta : TA) : TI := fun σ H R => ta σ H fun vs H1 => ∃ a xs, vs = [.ref a] ∧ SqT K H1 a xs ∧ R (Itu K a) H1
theorem pi_enumT {X : Cx} {e : Expr} {ta : TA} {p pos tpos : Pos} {elts : List Expr} {kk : Nat} (hg : Gl X "enumerate") (hm : X.mg "enumerate" = none) (ha : PA X [e] ta) (hs : starEach [e] X.env = [(false, eval e X.env)] := by rfl) :
    PI X (.Tuple elts kk tpos) (.Call (.Name "enumerate" p) [e] [] pos) (iEnumT X.K ta) := by
  refine ⟨fun pins s σ H R I h => ?_⟩
  refine Call_ (ld_blt I hg hm boot_enumerate (PyProof.Rows.callWith_type1 (thn (ha.run pos pins s σ H _ I h) fun us s1 ⟨vs, H1, I1, r1, q1⟩ => ?_) hs rfl))
  obtain ⟨a, xs, ex, hq, q⟩ := q1
  subst ex
  cases r1 with
  | cons r rr =>
    cases rr
    cases r
    obtain ⟨its, rv, p', hz⟩ := I1.tuple hq
    refine enum_begins1 (begins_tuple a its.toArray) p' fun h' he hit hsz hk => wpAny_pyIter_enum he ?_
    have I2 : Inv X pins σ H1 { s1 with heap := h' } := I1.kept (t' := s1.toks) hk
    refine ⟨s1.heap.objs.size + 1, [s1.heap.objs.size + 1, s1.heap.objs.size], _, _, H1, rfl, I2, turn_enumT a (s1.heap.objs.size + 1) s1.heap.objs.size, ⟨⟨.none, he⟩, ⟨_, hit, rfl, rfl⟩, Nat.succ_ne_self _⟩, fun b hb => ?_, q⟩
    have e' : b = s1.heap.objs.size + 1 ∨ b = s1.heap.objs.size := by simpa using hb
    have hle : s1.heap.objs.size ≤ b := by
      rcases e' with z | z
      · rw [z]; exact Nat.le_add_right _ _
      · rw [z]; exact Nat.le_refl _
    exact I1.fpOk hle (I1.hok.fresh hle)
/-- either walk -/
def iOr (w1 w2 : TI) : TI := fun σ H R => w1 σ H R ∨ w2 σ H R
theorem pi_or {X : Cx} {tg e : Expr} {w1 w2 : TI} (h1 : PI X tg e w1) (h2 : PI X tg e w2) : PI X tg e (iOr w1 w2) :=
  ⟨fun pins s σ H R I h => h.elim (fun q => h1.run pins s σ H R I q) fun q => h2.run pins s σ H R I q⟩
/-- a list and a tuple of one length, the items in new pairs -/
def ItzM (K : PySem.W.Frag) (a b : Addr) : It :=
  ⟨fun i H => ∃ (xs ys : List V) (x y : V), SqL K H a xs ∧ SqT K H b ys ∧ xs[i]? = some x ∧ ys[i]? = some y,
    fun i H v H' => ∃ T x y, v = .ref T ∧ H T = none ∧ H' = upd H T (.tup [x, y]) ∧ (∀ xs, SqL K H a xs → xs[i]? = some x) ∧ ∀ ys, SqT K H b ys → ys[i]? = some y,
    fun i H => ∃ xs ys : List V, SqL K H a xs ∧ SqT K H b ys ∧ xs.length = i ∧ ys.length = i⟩
theorem sep_of {z TI TO i1 i2 a b : Addr} (D : ZipApart z TI TO i1 i2 a b) : ZipSep2 z TI TO i1 i2 [i1, a] [i2, b] where
  TIz := D.TIz
  TOz := D.TOz
  TITO := D.TITO
  TIi1 := D.TIi1
  mem1 := by simp
  zf1 := by simp only [List.mem_cons, List.not_mem_nil, or_false, not_or]; exact ⟨Ne.symm D.i1z, Ne.symm D.l1z⟩
  Tf1 := by simp only [List.mem_cons, List.not_mem_nil, or_false, not_or]; exact ⟨D.TOi1, Ne.symm D.l1TO⟩
  TIi2 := D.TIi2
  mem2 := by simp
  zf2 := by simp only [List.mem_cons, List.not_mem_nil, or_false, not_or]; exact ⟨Ne.symm D.i2z, Ne.symm D.l2z⟩
  Tf2 := by simp only [List.mem_cons, List.not_mem_nil, or_false, not_or]; exact ⟨D.TOi2, Ne.symm D.l2TO⟩
  sep1_2 := by simp only [List.mem_cons, List.not_mem_nil, or_false, not_or]; exact ⟨D.i12, Ne.symm D.l2i1⟩
  sep2_1 := by simp only [List.mem_cons, List.not_mem_nil, or_false, not_or]; exact ⟨Ne.symm D.i12, Ne.symm D.l1i2⟩
theorem turn_zipM {P : Program} {w : World} {K : PySem.W.Frag} {elts : List Expr} {kk : Nat} {tpos : Pos} {a b z TI TO i1 i2 : Addr} (D : ZipApart z TI TO i1 i2 a b) :
    Turn P w K (.Tuple elts kk tpos) (ItzM K a b) [z, TI, TO, i1, i2] z (fun i h => IsZip h z TI TO .none ∧ IsPair h TI (.ref i1) (.ref i2) ∧ (∃ x y, IsPair h TO x y) ∧ h.IsListIter i1 a i ∧ h.IsTupleIter i2 b i) where
  mem := by simp
  obj := fun i h st c hc => by
    obtain ⟨hz, hTI, ⟨x, y, hTO⟩, ⟨o1, e1, _, d1⟩, ⟨o2, e2, _, d2⟩⟩ := st
    have e' : c = z ∨ c = TI ∨ c = TO ∨ c = i1 ∨ c = i2 := by simpa using hc
    rcases e' with q | q | q | q | q
    · rw [q]; exact ⟨_, hz, fun v q => nomatch q⟩
    · rw [q]; exact ⟨_, hTI, fun v q => nomatch q⟩
    · rw [q]; exact ⟨_, hTO, fun v q => nomatch q⟩
    · rw [q]; exact ⟨o1, e1, fun v q => by rw [d1] at q; cases q⟩
    · rw [q]; exact ⟨o2, e2, fun v q => by rw [d2] at q; cases q⟩
  keep := fun i h h' st k => by
    obtain ⟨hz, hTI, ⟨x, y, hTO⟩, h1, h2⟩ := st
    exact ⟨k z (by simp) _ hz, k TI (by simp) _ hTI, ⟨x, y, k TO (by simp) _ hTO⟩, h1.at fun o q => k i1 (by simp) o q, h2.at fun o q => k i2 (by simp) o q⟩
  item := by
    intro X hP hw hK hc i pins s σ H E I hf st hg
    subst hP hw hK
    obtain ⟨hz, hTI, ⟨x0, y0, hTO⟩, h1, h2⟩ := st
    obtain ⟨xs, ys, x, y, hqx, hqy, hx, hy⟩ := hg
    obtain ⟨its, rv, p, _⟩ := I.list hqx
    obtain ⟨its2, rv2, p2, _⟩ := I.tuple hqy
    obtain ⟨u, hu, ru⟩ := rv.get hx
    obtain ⟨u2, hu2, ru2⟩ := rv2.get hy
    have hzl : z < s.heap.objs.size := Heap.lt_size hz
    have hun : ∀ v, its.toArray[i]? = some v → v = u := fun v h1 => by
      rw [List.getElem?_toArray, hu] at h1
      exact (Option.some.inj h1).symm
    have hun2 : ∀ v, its2.toArray[i]? = some v → v = u2 := fun v h1 => by
      rw [List.getElem?_toArray, hu2] at h1
      exact (Option.some.inj h1).symm
    refine wpAny_pyNext_zipD2_item (sep_of D) (Draws.list (A := X.A.in1) (I.ok.hd hc) i1 a D.l1i1 its.toArray) (Draws.tuple (A := X.A.in1) (I.ok.hd hc) i2 b D.l2i2 its2.toArray) hz hTI hTO ⟨h1, p.isList⟩ ⟨h2, p2⟩
      (by have h9 := (List.getElem?_eq_some_iff.mp hu).1; simpa using h9) (by have h9 := (List.getElem?_eq_some_iff.mp hu2).1; simpa using h9) fun v1 v2 h' tk hP1 hP2 z' TO' h1' h2' hT hsz hk => ?_
    obtain rfl := hun v1 hP1
    obtain rfl := hun2 v2 hP2
    refine ⟨_, rfl, wpAny_letOwnedTupleGo_zip (s := { s with heap := h', toks := tk }) z' fun h'' z'' sb => ?_⟩
    have hT2 : h''.get? s.heap.objs.size = some { cls := .type "tuple", data := .seq #[v1, v2] } := (sb.2 _ (Nat.ne_of_gt hzl)).trans hT
    have new : ObjOk X.prog X.w (upd H s.heap.objs.size (.tup [x, y])) h'' s.heap.objs.size (.tup [x, y]) :=
      ⟨by show 2 ≤ sizeLine; decide, [v1, v2], .cons ru (.cons ru2 .nil), ⟨_, hT2, rfl, _, rfl⟩⟩
    have I1 : Inv X pins σ (upd H s.heap.objs.size (.tup [x, y])) { s with heap := h'', toks := tk } :=
      I.turnedNew (t' := tk) (ch := [z, TI, TO, i1, i2]) (fun c o hb q => (sb.2 c (fun q' => hb (by simp [q']))).trans (hk c o (fun q' => hb (by simp [q'])) (fun q' => hb (by simp [q'])) (fun q' => hb (by simp [q'])) (fun q' => hb (by simp [q'])) q)) hf (Nat.le_refl _) new
    refine ⟨.ref s.heap.objs.size, _, I1, rfl, ⟨_, x, y, rfl, I.hok.fresh (Nat.le_refl _), rfl, fun l hl => by rw [I.list_inj hl hqx]; exact hx, fun l hl => by rw [I.tuple_inj hl hqy]; exact hy⟩, ⟨z'', ?_, ⟨v1, v2, ?_⟩, ?_, ?_⟩, fun c hcm => ?_⟩
    · exact (sb.2 _ D.TIz).trans (hk _ _ D.TIz D.TITO D.TIi1 D.TIi2 hTI)
    · exact (sb.2 _ D.TOz).trans TO'
    · exact h1'.1.at fun o q => (sb.2 _ D.i1z).trans q
    · exact h2'.1.at fun o q => (sb.2 _ D.i2z).trans q
    · have hlt : c < s.heap.objs.size := by
        have e' : c = z ∨ c = TI ∨ c = TO ∨ c = i1 ∨ c = i2 := by simpa using hcm
        rcases e' with q | q | q | q | q
        · rw [q]; exact hzl
        · rw [q]; exact Heap.lt_size hTI
        · rw [q]; exact Heap.lt_size hTO
        · rw [q]; obtain ⟨_, e1, _⟩ := h1; exact Heap.lt_size e1
        · rw [q]; obtain ⟨_, e2, _⟩ := h2; exact Heap.lt_size e2
      rw [upd_ne (Nat.ne_of_lt hlt)]
      exact (hf c hcm).1
  done := by
    intro X hP hw hK hc i pins s σ H E I hf st hg
    subst hP hw hK
    obtain ⟨hz, hTI, ⟨x0, y0, hTO⟩, h1, h2⟩ := st
    obtain ⟨xs, ys, hqx, hqy, hx, hy⟩ := hg
    obtain ⟨its, rv, p, _⟩ := I.list hqx
    obtain ⟨its2, rv2, p2, _⟩ := I.tuple hqy
    have l1 := rv.length
    have l2 := rv2.length
    have e1 : its.toArray.size = i := by simp; omega
    have e2 : its2.toArray.size = i := by simp; omega
    exact wpAny_pyNext_zipD2_end (i := i) (sep_of D) (Draws.list (A := X.A.in1) (I.ok.hd hc) i1 a D.l1i1 its.toArray) (Draws.tuple (A := X.A.in1) (I.ok.hd hc) i2 b D.l2i2 its2.toArray) hz hTI hTO ⟨h1, p.isList⟩ ⟨h2, p2⟩
      (Nat.le_of_eq e1.symm) (Nat.le_of_eq e2.symm) (.inl e1.symm) fun h' tk hk => ⟨rfl, I.turnedL (t' := tk) (ch := [z, TI, TO, i1, i2]) (fun c o hb q =>
      hk c o (fun q' => hb (by simp [q'])) (fun q' => hb (by simp [q'])) (fun q' => hb (by simp [q'])) (fun q' => hb (by simp [q'])) q) hf⟩
  self := fun A i s Q E st h => wpAny_pyIter_zip st.1 h
def iZipM (K : PySem.W.Frag) (ta : TA) : TI := fun σ H R => ta σ H fun vs H1 => ∃ a b xs ys, vs = [.ref a, .ref b] ∧ SqL K H1 a xs ∧ SqT K H1 b ys ∧ R (ItzM K a b) H1
theorem pi_zipM {X : Cx} {e e2 : Expr} {ta : TA} {p pos tpos : Pos} {elts : List Expr} {kk : Nat} (hg : Gl X "zip") (hm : X.mg "zip" = none) (ha : PA X [e, e2] ta)
    (hs : starEach [e, e2] X.env = (false, eval e X.env) :: starEach [e2] X.env := by rfl) (hpl : (backTo pos (starEach [e2] X.env)).any (·.1) = false := by rfl) :
    PI X (.Tuple elts kk tpos) (.Call (.Name "zip" p) [e, e2] [] pos) (iZipM X.K ta) := by
  refine ⟨fun pins s σ H R I h => ?_⟩
  refine Call_ (ld_blt I hg hm PyProof.Rows.boot_zip (PyProof.Rows.callWith_type1 (thn (ha.run pos pins s σ H _ I h) fun us s1 ⟨vs, H1, I1, r1, q1⟩ => ?_) hs hpl))
  obtain ⟨a, b, xs, ys, ex, hqx, hqy, q⟩ := q1
  subst ex
  cases r1 with
  | cons r rr =>
    cases rr with
    | cons r' rr =>
      cases rr
      cases r
      cases r'
      have fresh5 : ∀ c, c ∈ [s1.heap.objs.size + 4, s1.heap.objs.size + 2, s1.heap.objs.size + 3, s1.heap.objs.size, s1.heap.objs.size + 1] → FpOk X pins H1 c := fun c hcm => by
        have e' : c = s1.heap.objs.size + 4 ∨ c = s1.heap.objs.size + 2 ∨ c = s1.heap.objs.size + 3 ∨ c = s1.heap.objs.size ∨ c = s1.heap.objs.size + 1 := by simpa using hcm
        have hle : s1.heap.objs.size ≤ c := by
          rcases e' with z | z | z | z | z
          · rw [z]; exact Nat.le_add_right _ _
          · rw [z]; exact Nat.le_add_right _ _
          · rw [z]; exact Nat.le_add_right _ _
          · rw [z]; exact Nat.le_refl _
          · rw [z]; exact Nat.le_add_right _ _
        exact I1.fpOk hle (I1.hok.fresh hle)
      obtain ⟨its, rv, p1, _⟩ := I1.list hqx
      obtain ⟨its2, rv2, p2, _⟩ := I1.tuple hqy
      obtain ⟨o2, ho2, _⟩ := id p2
      refine zip_begins2 (begins_list a its.toArray) (begins_tuple b its2.toArray) p1.isList p2 fun h' hz hTI hTO h1 h2 hsz hk => wpAny_pyIter_zip hz ?_
      have I2 : Inv X pins σ H1 { s1 with heap := h' } := I1.kept (t' := s1.toks) hk
      exact ⟨s1.heap.objs.size + 4, [s1.heap.objs.size + 4, s1.heap.objs.size + 2, s1.heap.objs.size + 3, s1.heap.objs.size, s1.heap.objs.size + 1], _, _, H1, rfl, I2, turn_zipM (PySem.W.ktu_apart s1.heap.objs.size a b p1.lt (Heap.lt_size ho2)), ⟨hz, hTI, ⟨_, _, hTO⟩, ⟨_, h1, rfl, rfl⟩, ⟨_, h2, rfl, rfl⟩⟩, fresh5, q⟩
end Wm
set_option Elab.async false
set_option linter.all false
set_option maxRecDepth 100000
set_option maxHeartbeats 4000000
/-! small rules that the layer lacks -/
namespace Wm
open PySem PySem.Spec PyProof.Rows L2
section
variable {X : Cx}
/-- range(n) as a value -/
theorem cr_range1 : CallR X (.type "range") (fun vs H Q => ∃ j, vs = [V.int j] ∧ ∀ p, H p = none → Q (.ref p) (upd H p (.rng 0 j))) := by
  intro pins s σ H vs us Q I r h
  obtain ⟨j, rfl, q⟩ := h
  obtain ⟨u1, rfl, rj⟩ := vals1 r
  obtain ⟨t, rfl⟩ := rj
  refine call_range_1 ⟨.ref s.heap.objs.size, upd H s.heap.objs.size (.rng 0 j), I.laid (t' := _) (fun b o e => Heap.get?_push_of_some _ e) (Nat.le_refl _) ?_, rfl, q _ (I.hok.fresh (Nat.le_refl _))⟩
  exact ⟨_, _, _, Heap.get?_push_size _ rfl⟩
/-- i not in r -/
theorem op_notin_rng : OpR X (compareOp .NotIn) (fun x y H Q => ∃ i a lo hi, x = V.int i ∧ y = V.ref a ∧ H a = some (.rng lo hi) ∧ Q (.bl (!decide (lo ≤ i ∧ i < hi))) H) := by
  intro pins s σ H x y v u Q I rx ry h
  obtain ⟨i, a, lo, hi, rfl, rfl, ha, q⟩ := h
  obtain ⟨k, rfl⟩ := rx
  obtain rfl : u = Value.ref a := ry
  obtain ⟨t1, t2, t3, ho⟩ := I.hok a _ ha
  show wpAny _ _ (do return Value.bool (!(← contains (Value.ref a) (Value.int i k)))) _ _ s
  refine wpAny_bind (wpAny_contains_slot (T := "range") ⟨_, ho, rfl⟩ F.slot_range_contains (call_meets F.slot_range_contains ⟨_, ho, rfl⟩ F.entry_range_contains (F.args_range_contains_2 _ _) (q_contains a lo hi i t1 t2 t3 k)
    ⟨ho, wpAny_truthy_bool (wpAny_pure ⟨.bl _, H, I, rfl, ?_⟩)⟩))
  rw [place1]
  exact q
/-- sum of a tuple of ints -/
theorem iter_intTup {prog : Program} {w : World} {A : Around} {E : Value → Shared → Prop} {s : Shared} {l : Addr} {xs : Array (Int × Tok)} {Q : Value → Shared → Prop} (hl : s.heap.IsTuple l (intItems xs))
    (h : ∀ s₂ : Shared, s₂ = { s with heap := s.heap.push { cls := .type "tuple_iterator", data := .fields #[.ref l, .int 0 0] } } →
      (s₂.heap.IsTupleIter s.heap.objs.size l 0 ∧ s₂.heap.IsTuple l (intItems xs)) → (∀ b ∈ [s.heap.objs.size, l], b < s₂.heap.objs.size) → l ≠ s.heap.objs.size → Q (.ref s.heap.objs.size) s₂) :
    wpAny (model prog w) A (pyIter (.ref l)) Q E s := by
  have hlt : l < s.heap.objs.size := by obtain ⟨_, e, _⟩ := hl; exact Heap.lt_size e
  refine wpAny_pyIter_tuple hl (h _ rfl ⟨⟨_, Heap.get?_push_size _ rfl, rfl, rfl⟩, hl.push _⟩ (fun b hb => ?_) (Nat.ne_of_lt hlt))
  show b < (s.heap.push _).objs.size
  rw [Heap.size_push]
  have e' : b = s.heap.objs.size ∨ b = l := by simpa using hb
  rcases e' with z | z
  · rw [z]; exact Nat.lt_succ_self _
  · rw [z]; exact Nat.lt_succ_of_lt hlt
def rSumT (K : PySem.W.Frag) : List V → Hp → VK → Prop := fun vs H Q => ∃ (a : Addr) (ns : List Int), vs = [V.ref a] ∧ SqT K H a (ns.map V.int) ∧ Q (.int ns.sum) H
theorem cr_sumT (hc : X.calm = true) : CallR X (.builtin "sum") (rSumT X.K) := by
  intro pins s σ H vs us Q I r h
  obtain ⟨a, ns, rfl, hs, q⟩ := h
  obtain ⟨its, rv, hl, _⟩ := I.tuple hs
  obtain ⟨u, rfl, ru⟩ := vals1 r
  obtain rfl : u = Value.ref a := ru
  have hi := rv.ints
  obtain ⟨xs, e⟩ := hi.allInts.items
  have hn : numsOf (intItems xs).toList = ns := by rw [← e]; exact hi.numsOf
  rw [nums_intItems] at hn
  rw [e] at hl
  refine call_sum_walkG (iter_intTup hl fun s2 e2 st hfp hlI => ?_)
  subst e2
  refine ⟨_, _, _, _, _, _, numAt xs, rfl, Walks.tuple (A := X.A.in1) (I.ok.hd hc) _ a hlI (intItems xs), st, hfp, (fun _ _ => intItems_at), fun h' tk t' hk => ?_⟩
  have ev : preSum (numAt xs) (intItems xs).size = ns.sum := by
    rw [preSum_eq, List.take_of_length_le (by simp [intItems]), hn]
  refine ⟨.int _, H, I.kept (t' := tk) fun b o e => hk b o (fun hm => ?_) (Heap.get?_push_of_some _ e), ⟨t', by rw [ev]⟩, q⟩
  have e9 : b = s.heap.objs.size := by simpa using hm
  exact absurd (e9 ▸ Heap.lt_size e) (Nat.lt_irrefl _)
/-- t.count(x) of a tuple of flat items -/
def rCntT (K : PySem.W.Frag) : V → List V → Hp → VK → Prop := fun x xs H Q => ∃ (p : Addr) (ys : List V) (y : V), x = .ref p ∧ xs = [y] ∧ SqT K H p ys ∧ flatV y = true ∧ ys.all flatV = true ∧ Q (.int (ys.countP fun z => eqV z y : Nat)) H
theorem cnt_eqU {x : V} : ∀ {xs : List V} {us : List Value}, Vals xs us → xs.all flatV = true → us.countP (eqU x) = xs.countP fun y => eqV y x
  | _, _, .nil, _ => rfl
  | y :: xs, u :: us, .cons r t, f => by
    rw [List.all_cons, Bool.and_eq_true] at f
    rw [List.countP_cons, List.countP_cons, eqU_of r f.1, cnt_eqU t f.2]
theorem mt_tcount : MtR X "tuple.count" (rCntT X.K) := by
  intro pins s σ H x xs v us Q I rx rxs h
  obtain ⟨p, ys, y, rfl, rfl, hs, fy, fs, q⟩ := h
  cases rx
  obtain ⟨u, rfl, ru⟩ := vals1 rxs
  obtain ⟨its, rv, ⟨⟨cls, dd, data, sl⟩, ho, hc, n, hd⟩, hlen⟩ := I.tuple hs
  simp only at hc hd
  subst hc hd
  refine call_meets PySem.F.slot_tuple_count ⟨_, ho, rfl⟩ PySem.F.entry_tuple_count (PySem.F.args_tuple_count_2 _ _)
    (SeqAt.tuple_countAt p its.toArray n dd sl u (eqU y)) ⟨ho, fun z hz => mem_eqAt ru fy rv fs z (by simpa using hz), ?_⟩
  have ec : its.toArray.toList.countP (eqU y) = ys.countP fun z => eqV z y := cnt_eqU rv fs
  refine ⟨.int (ys.countP fun z => eqV z y : Nat), H, I.tok _, ⟨s.toks, ?_⟩, q⟩
  show Value.int ((its.toArray.toList.countP (eqU y) : Nat) : Int) s.toks = _
  rw [ec]
/-- o[i] op= e on a list -/
def rGetL (K : PySem.W.Frag) : V → V → Hp → VK → Prop := fun o i H Q => ∃ (p : Addr) (xs : List V) (j : Nat) (v : V), o = .ref p ∧ i = .int (j : Int) ∧ SqL K H p xs ∧ xs[j]? = some v ∧ j < 1000 ∧ Q v H
theorem get_list : PGet X (rGetL X.K) := by
  intro pins s σ H o i ov iv Q I r1 r2 h
  obtain ⟨p, xs, n, v, rfl, rfl, hs, ha, hn, q⟩ := h
  cases r1
  obtain ⟨t, rfl⟩ := r2
  obtain ⟨its, r, pl, hz⟩ := I.list hs
  obtain ⟨u, hu, ru⟩ := r.get ha
  exact wpAny_getItem_list pl.isList (by omega) (by omega) (by simpa using hu) ⟨v, H, I, ru, q⟩
end
end Wm
set_option Elab.async false
set_option linter.all false
set_option maxRecDepth 100000
set_option maxHeartbeats 4000000
/-! sorted of a tuple, len(set(..)), slots as targets, repr -/
namespace Wm
open PySem PySem.Spec PyProof.Rows L2
/-! another around of the same frames -/
abbrev atA (X : Cx) (A : Around) : Cx := { X with A := A }
section
variable {X : Cx} {pins : List (Addr × Obj)} {σ : L2.St} {H : Hp} {s : Shared}
theorem inv_in (I : Inv X pins σ H s) : Inv (atA X X.A.in1) pins σ H s :=
  ⟨⟨I.ok.mod, I.ok.kind, I.ok.glob, I.ok.blt, I.ok.above, I.ok.inj, I.ok.has, I.ok.cab, I.ok.hd, I.ok.frames, I.ok.stk, I.ok.exf, I.ok.bs, I.ok.bsz, I.ok.noex, I.ok.exfs, I.ok.funs, I.ok.frf⟩, I.os, I.bare, I.base, I.loc, I.cell, I.free, I.freeC, I.pin, I.hok, I.len⟩
theorem inv_out (I : Inv (atA X X.A.in1) pins σ H s) : Inv X pins σ H s :=
  ⟨⟨I.ok.mod, I.ok.kind, I.ok.glob, I.ok.blt, I.ok.above, I.ok.inj, I.ok.has, I.ok.cab, I.ok.hd, I.ok.frames, I.ok.stk, I.ok.exf, I.ok.bs, I.ok.bsz, I.ok.noex, I.ok.exfs, I.ok.funs, I.ok.frf⟩, I.os, I.bare, I.base, I.loc, I.cell, I.free, I.freeC, I.pin, I.hok, I.len⟩
end
section
variable {X : Cx}
/-- sorted of a tuple of pairs of ints -/
def rSortTu (K : PySem.W.Frag) : List V → Hp → VK → Prop := fun vs H Q => ∃ (a : Addr) (xs : List V) (k : V → Int × Int), vs = [V.ref a] ∧ SqT K H a xs ∧ (∀ x ∈ xs, ∃ t, x = V.ref t ∧ H t = some (.tup [.int (k x).1, .int (k x).2])) ∧
  ∀ ys p, SrtO.Srtd (ltP k) ys → SrtO.Stb (ltP k) ys xs → H p = none → Q (.ref p) (upd H p (.lst ys))
theorem cr_sortTu : CallR X (.builtin "sorted") (rSortTu X.K) := by
  intro pins s σ H vs us Q I r h
  obtain ⟨a, xs, k, rfl, hs, hx, q⟩ := h
  obtain ⟨its, rv, hl, hz⟩ := I.tuple hs
  obtain ⟨o, ho, hc, n, hd⟩ := hl
  obtain ⟨u, rfl, ru⟩ := vals1 r
  obtain rfl : u = Value.ref a := ru
  refine call_function_entry_kw kind_sorted plain_sorted entry_sorted (args_sorted1 _) ?_
  unfold Builtin.«sorted»
  refine wpAny_bind (m := checkCount "sorted" 1 1 _) (wpAny_pure ?_)
  have hl0 := rv.length
  refine wpAny_bind (wpAny_collect_seq a (.inr rfl) ho hc hd (fun h' kp => ?_) (by simp; omega))
  refine wpAny_bind (wpAny_newList ?_ (by simp; omega))
  have I1 : Inv X pins σ H { s with heap := h' } := I.kept (t' := s.toks) kp
  have hn : H h'.objs.size = none := I1.hok.fresh (Nat.le_refl _)
  have I2 : Inv X pins σ (upd H h'.objs.size (.lst xs)) { s with heap := h'.push { cls := .type "list", data := .seq its.toArray.toList.toArray } } :=
    I1.laid (t' := s.toks) (fun b o e => Heap.get?_push_of_some _ e) (Nat.le_refl _) ⟨hz, its, 0, rv, Heap.get?_push_size _ rfl⟩
  have I3 := inv_in I2
  refine wpAny_bind (wpAny_holding ?_)
  refine wpAny_mono (mt_sortPO (X := (atA X X.A.in1).wish (fun _ _ => False)) pins _ σ _ (.ref h'.objs.size) [] (.ref h'.objs.size) [] (fun v H' => v = .non ∧ ∃ ys, SrtO.Srtd (ltP k) ys ∧ SrtO.Stb (ltP k) ys xs ∧ H' = upd H h'.objs.size (.lst ys)) (I3.wish _) rfl .nil
    ⟨h'.objs.size, xs, k, rfl, rfl, upd_same, fun x hm => ?_, fun zs h1 h2 => ⟨rfl, zs, h1, h2, by rw [upd_upd]⟩⟩) (fun v s' hv => ?_) fun _ _ z => z.elim
  · obtain ⟨t, e, ht⟩ := hx x hm
    exact ⟨t, e, by rw [upd_ne (ne_of_none ht hn)]; exact ht⟩
  · obtain ⟨x, H', I4, rx, ex, ys, h1, h2, rfl⟩ := hv
    exact wpAny_pure ⟨_, rfl, .ref h'.objs.size, _, inv_out I4.unwish, rfl, q ys _ h1 h2 hn⟩
/-! len(set(xs)) of any ints -/
theorem met_sub (f : Nat → Int) : ∀ i, ∀ x ∈ firstMet f i, ∃ j, j < i ∧ f j = x
  | 0, x, h => by rw [firstMet_zero] at h; cases h
  | i + 1, x, h => by
    rw [firstMet_succ] at h
    unfold step_dedup at h
    split at h
    · obtain ⟨j, hj, e⟩ := met_sub f i x h
      exact ⟨j, by omega, e⟩
    · rcases List.mem_append.mp h with h | h
      · obtain ⟨j, hj, e⟩ := met_sub f i x h
        exact ⟨j, by omega, e⟩
      · have e : x = f i := by simpa using h
        exact ⟨i, by omega, e.symm⟩
theorem met_has (f : Nat → Int) : ∀ i j, j < i → f j ∈ firstMet f i
  | 0, j, h => by omega
  | i + 1, j, h => by
    rw [firstMet_succ]
    unfold step_dedup
    by_cases hj : j = i
    · subst hj
      split
      · rename_i hm
        obtain ⟨y, hy, e⟩ := List.any_eq_true.mp hm
        have e2 : y = f j := eq_of_beq e
        rw [← e2]
        exact hy
      · simp
    · have ih := met_has f i j (by omega)
      split
      · exact ih
      · exact List.mem_append_left _ ih
theorem met_len (f : Nat → Int) : ∀ i, (firstMet f i).length ≤ i ∧ ((firstMet f i).length = i ↔ ∀ a b, a < b → b < i → f a ≠ f b)
  | 0 => by rw [firstMet_zero]; exact ⟨Nat.le_refl _, fun _ a b _ hb => by omega, fun _ => rfl⟩
  | i + 1 => by
    obtain ⟨h1, h2⟩ := met_len f i
    rw [firstMet_succ]
    unfold step_dedup
    split
    · rename_i hm
      obtain ⟨y, hy, e⟩ := List.any_eq_true.mp hm
      have e2 : y = f i := eq_of_beq e
      obtain ⟨j, hj, ej⟩ := met_sub f i y hy
      refine ⟨by omega, fun z => by omega, fun z => ?_⟩
      exact absurd (ej.trans e2) (z j i hj (by omega))
    · rename_i hm
      rw [List.length_append, List.length_singleton]
      refine ⟨by omega, fun z a b hab hb => ?_, fun z => ?_⟩
      · by_cases hbi : b = i
        · subst hbi
          intro e
          apply hm
          refine List.any_eq_true.mpr ⟨f a, met_has f b a hab, ?_⟩
          rw [e]
          exact beq_self_eq_true _
        · exact h2.mp (by omega) a b hab (by omega)
      · have := h2.mpr fun a b hab hb => z a b hab (by omega)
        omega
def tLenSetJ (K : PySem.W.Frag) (ta : TE) : TE := fun σ H Q => ta σ H fun x H1 => ∃ (l : Addr) (ns : List Int), x = .ref l ∧ SqL K H1 l (ns.map V.int) ∧ ns.length ≤ 4000 ∧ ∀ m : Nat, m ≤ ns.length → (m = ns.length ↔ ns.Nodup) → Q (.int (m : Nat)) H1
theorem pe_lenSetJ {a : Expr} {ta : TE} {p p2 q pos : Pos} (hg : Gl X "len") (hm : X.mg "len" = none) (hg2 : Gl X "set") (hm2 : X.mg "set" = none) (ha : PE X a ta) (hc : X.calm = true := by rfl)
    (na : starEach [a] X.env = (false, eval a X.env) :: starEach [] X.env := by rfl) : PE X (.Call (.Name "len" p) [.Call (.Name "set" p2) [a] [] q] [] pos) (tLenSetJ X.K ta) := by
  refine ⟨fun pins s σ H Q I h => ?_⟩
  refine Call_ (ld_blt I hg hm PySem.boot_len ?_)
  refine PyProof.Rows.callWith_builtin1 (PyProof.Rows.args_cons ?_ rfl) rfl rfl
  refine Call_ (ld_blt I hg2 hm2 boot_set ?_)
  refine PyProof.Rows.callWith_type1 (PyProof.Rows.args_cons (thn (ha.run pins s σ H _ I h) fun v s1 ⟨x, H1, I1, r1, q1⟩ => PyProof.Rows.args_nil ?_) na) na rfl
  obtain ⟨l, ns, rfl, hq, hl, q1⟩ := q1
  cases r1
  obtain ⟨its, r, pl, hz⟩ := I1.list hq
  have hlen : its.toArray.size = ns.length := by rw [List.size_toArray, ← r.length, List.length_map]
  refine call_set_list (I1.ok.hd hc) pl.isList (by simpa using RZ.intsAre_vals r) (by rw [hlen]; unfold scanBound; omega) fun h' tk hS hk => ?_
  refine PyProof.Rows.args_nil ?_
  rw [hlen] at hS
  obtain ⟨h1, h2⟩ := met_len (fun i => ns.getD i 0) ns.length
  have hnd : (firstMet (fun i => ns.getD i 0) ns.length).length = ns.length ↔ ns.Nodup := by
    rw [h2, List.nodup_iff_pairwise_ne, List.pairwise_iff_getElem]
    constructor
    · intro z a b ha hb hab
      have := z a b hab hb
      rw [List.getD_eq_getElem?_getD, List.getD_eq_getElem?_getD, List.getElem?_eq_getElem ha, List.getElem?_eq_getElem hb] at this
      exact this
    · intro z a b hab hb
      have ha : a < ns.length := by omega
      rw [List.getD_eq_getElem?_getD, List.getD_eq_getElem?_getD, List.getElem?_eq_getElem ha, List.getElem?_eq_getElem hb]
      exact z a b ha hb hab
  obtain ⟨o, es, ep, t, ho, hex, hd, _, _, _, hf, hn⟩ := hS
  have I2 : Inv X pins σ H1 { s1 with heap := h', toks := tk } := I1.kept fun b o e => hk b o (Heap.lt_size e) e
  exact call_len_set ho hex hd hf (by rw [hn] <;> omega) ⟨.int _, H1, I2.tok _, ⟨_, by rw [hn]⟩, q1 _ h1 hnd⟩
end
end Wm
set_option Elab.async false
set_option linter.all false
set_option maxRecDepth 100000
set_option maxHeartbeats 4000000
/-! slots of a kept instance, repr of data, the bag as one abstract thing, defs run where no guard stands -/
namespace Wm
open PySem PySem.Spec PyProof.Rows L2
open SlX (SCls Slot1 Slt SlO slH putS)
/-! ### an instance with slots, already stored into -/
def Sto (C dx a : Addr) (vs : List (Option V)) (H : Hp) : Prop := dx ≠ a ∧ H dx = some (.xd []) ∧ H a = some (SlO a C dx vs)
theorem Sto.slt {C dx a : Addr} {vs : List (Option V)} {H : Hp} (h : Sto C dx a vs H) : Slt H a C dx vs := .inr ⟨h.2.2, h.2.1⟩
theorem upd_id {H : Hp} {a : Addr} {o : HO} (h : H a = some o) : upd H a o = H := by
  funext b
  by_cases e : b = a
  · rw [e, upd_same, h]
  · rw [upd_ne e]
theorem slH_sto {C dx a : Addr} {vs vs' : List (Option V)} {H : Hp} (h : Sto C dx a vs H) : slH H a C dx vs' = upd H a (SlO a C dx vs') := by
  unfold slH
  rw [upd_id h.2.1]
theorem putS_set {i : Nat} {v : V} {vs : List (Option V)} (h : i < vs.length) : putS i v vs = vs.set i (some v) := by
  unfold putS
  rw [show i + 1 - vs.length = 0 by omega]
  simp
theorem Sto.put {C dx a : Addr} {vs vs' : List (Option V)} {H : Hp} (h : Sto C dx a vs H) : Sto C dx a vs' (upd H a (SlO a C dx vs')) :=
  ⟨h.1, by rw [upd_ne h.1]; exact h.2.1, upd_same⟩
def tSg (C : Addr) (i : Nat) (ta : TE) : TE := fun σ H Q => ta σ H fun x H1 => ∃ a dx vs v, x = .ref a ∧ Sto C dx a vs H1 ∧ vs[i]? = some (some v) ∧ Q v H1
def sSg (C : Addr) (i : Nat) (ta tv : TE) : TS := fun D σ H => tv σ H fun y H1 => ta σ H1 fun x H2 => ∃ a dx vs, x = .ref a ∧ Sto C dx a vs H2 ∧ i < vs.length ∧ D.nx σ (upd H2 a (SlO a C dx (vs.set i (some y))))
def gSg (C : Addr) (i : Nat) (ta : TE) : TG := fun y σ H Q => ta σ H fun x H2 => ∃ a dx vs, x = .ref a ∧ Sto C dx a vs H2 ∧ i < vs.length ∧ Q σ (upd H2 a (SlO a C dx (vs.set i (some y))))
def sSgAug (C : Addr) (i : Nat) (ta tv : TE) (rd : V → V → Hp → VK → Prop) : TS := fun D σ H => ta σ H fun x H1 => ∃ a dx vs v, x = .ref a ∧ Sto C dx a vs H1 ∧ vs[i]? = some (some v) ∧
  tv σ H1 fun y H2 => rd v y H2 fun z H3 => ∃ vs', Sto C dx a vs' H3 ∧ i < vs'.length ∧ D.nx σ (upd H3 a (SlO a C dx (vs'.set i (some z))))
section
variable {X : Cx} {o e value : Expr} {f : Str} {pos pos' tpos : Pos} {ta tv : TE} {C p : Addr} {i : Nat}
theorem pe_sg (c : SCls X.K C) (k : Slot1 X.K C f p i) (he : PE X e ta) (hb : attributeBase e f X.env (eval e X.env) = eval e X.env := by rfl) : PE X (.Attribute e f pos) (tSg C i ta) := by
  refine ⟨fun pins s σ H Q I h => ?_⟩
  refine attr_of hb (thn (he.run pins s σ H _ I h) fun u s1 ⟨x, H1, I1, rx, a, dx, vs, v, ex, hs, l, q⟩ => ?_)
  subst ex
  obtain rfl : u = Value.ref a := rx
  exact SlX.getslot_ok I1 hs.slt c k l fun u' s2 I2 ru => ⟨v, H1, I2, ru, q⟩
theorem ps_sg (c : SCls X.K C) (k : Slot1 X.K C f p i) (ha : PE X o ta) (hv : PE X value tv) (hs : swapsWith value (some (.Attribute o f pos')) pos.line X.env = pure false := by rfl) :
    PS X (.Assign [.Attribute o f pos'] value pos) (sSg C i ta tv) := by
  refine ⟨fun pins s σ H D I h => ?_⟩
  refine plainObj_wpAny_Assign_Attribute (thn (hv.run pins s σ H _ I h) fun u s1 ⟨y, H1, I1, ry, q⟩ => thn (ha.run pins s1 σ H1 _ I1 q) fun ov s2 ⟨x, H2, I2, rx, a, dx, vs, ex, hsl, hi, q2⟩ => ?_) hs
  subst ex
  obtain rfl : ov = Value.ref a := rx
  refine SlX.setslot_ok I2 hsl.slt c k ry fun s3 I3 => ?_
  rw [slH_sto hsl, putS_set hi] at I3
  exact ⟨σ, _, I3, q2⟩
theorem pg_sg (c : SCls X.K C) (k : Slot1 X.K C f p i) (ha : PE X o ta) : PG X (.Attribute o f pos) (gSg C i ta) := by
  refine ⟨fun pins s σ H v u Q I r h => ?_⟩
  show wpAny _ _ (do
    let ov ← holding [u] (eval o X.env)
    standAt pos.atName
    holding [u, ov] (setAttr ov f u)
    release [u, ov] []) _ _ s
  refine wpAny_bind (wpAny_holding (thn (ha.run pins s σ H _ I h) fun ov s2 ⟨x, H2, I2, rx, a, dx, vs, ex, hsl, hi, q2⟩ => ?_))
  subst ex
  obtain rfl : ov = Value.ref a := rx
  refine wpAny_bind (wpAny_standAt (wpAny_bind (wpAny_holding (SlX.setslot_ok I2 hsl.slt c k r fun s3 I3 => ?_))))
  rw [slH_sto hsl, putS_set hi] at I3
  exact wpAny_release ⟨σ, _, I3, q2⟩
theorem ps_sgAug {op : Operator} {rd : V → V → Hp → VK → Prop} (c : SCls X.K C) (k : Slot1 X.K C f p i) (ha : PE X o ta) (hv : PE X value tv) (hop : InOp X op rd) :
    PS X (.AugAssign (.Attribute o f tpos) op value pos) (sSgAug C i ta tv rd) := by
  refine ⟨fun pins s σ H D I h => ?_⟩
  refine wpAny_AugAssign_AttributeAny (thn (ha.run pins s σ H _ I h) fun ov s1 ⟨x, H1, I1, rx, a, dx, vs, v, ex, ea, l, q⟩ => ?_)
  subst ex
  obtain rfl : ov = Value.ref a := rx
  refine SlX.getslot_ok I1 ea.slt c k l fun u s2 I2 ru => thn (hv.run pins s2 σ H1 _ I2 q) fun w3 s3 ⟨y, H2, I3, ry, q3⟩ => thn (hop pins s3 σ H2 v y u w3 _ I3 ru ry q3) fun w4 s4 ⟨z, H3, I4, rz, vs', ea', hi, q4⟩ => ?_
  refine SlX.setslot_ok I4 ea'.slt c k rz fun s5 I5 => ?_
  rw [slH_sto ea', putS_set hi] at I5
  exact ⟨σ, _, I5, q4⟩
end
/-- a new instance, nothing stored yet, taken for one with n empty slots -/
def tIni (C : Addr) (n : Nat) (t : TS) : TS := fun D σ H => ∃ a dx, H a = some (.ins C dx []) ∧ (dx ≠ a → t D σ (slH H a C dx (List.replicate n none)))
theorem rep_slr (n : Nat) : SlX.SlR (List.replicate n none) #[] := fun i v h => by
  rw [List.getElem?_replicate] at h
  split at h <;> cases h
theorem pss_ini {X : Cx} {sts : List Stmt} {t : TS} {C : Addr} {n : Nat} (h : PSs X sts t) : PSs X sts (tIni C n t) := by
  refine ⟨fun pins s σ H D I hq => ?_⟩
  obtain ⟨a, dx, ha, hq⟩ := hq
  obtain ⟨ne, sl, mA, e, r, n2, q2⟩ := SlX.slt_at I (.inl ⟨ha, rfl⟩ : Slt H a C dx [])
  obtain ⟨mA2, O, r2, _, _, _⟩ := ins_get I.hok ha
  exact h.run pins s σ _ D (SlX.inv_slot (t' := s.toks) (h' := s.heap) I (.inl ⟨ha, rfl⟩) (fun b o _ _ e => e) (fun m hm => hm) (sl' := #[]) O.obj (rep_slr n)) (hq ne)
/-! ### repr of data -/
def rRepr (K : PySem.W.Frag) : List V → Hp → VK → Prop := fun xs H Q => ∃ (x : V) (d : PyData), xs = [x] ∧ Dp K H x d ∧ d.showable = true ∧ d.hasDict = false ∧ d.depth ≤ 8 ∧ d.shown.length ≤ sizeLine ∧ Q (.str d.shown) H
theorem cr_repr {X : Cx} (hg : X.A.guards = some []) (hu : X.A.units + 64 < cLine) : CallR X (.builtin "repr") (rRepr X.K) := by
  intro pins s σ H xs us Q I r h
  obtain ⟨x, d, rfl, hd, hs, hn, hp, hz, q⟩ := h
  obtain ⟨u, rfl, ru⟩ := vals1 r
  have big : ∀ a : Addr, x = .ref a → wpAny (model X.prog X.w) X.A (call (.builtin "repr") [u]) (EP X pins σ Q) X.xe s := fun a e => by
    obtain ⟨as, hr⟩ := Dp.reads I d x u hd ru
    subst e
    obtain rfl : u = Value.ref a := ru
    exact repr_of_reads' hr hs (fun z => by rw [hn] at z; cases z) hg (by omega) (fun b o e => e) (fun h' u tk hk => ⟨.str d.shown, H, I.kept (t' := tk) hk, ⟨u, rfl⟩, q⟩) hz
  cases hd with
  | non => cases ru; exact PySem.P.repr_of_none ⟨.str (PyData.shown .none), H, I.tok _, ⟨s.toks, by simp [PyData.shown]⟩, q⟩
  | bl b => cases ru; exact PySem.P.repr_of_bool ⟨.str (PyData.shown (.bool b)), H, I.tok _, ⟨s.toks, by simp [PyData.shown]⟩, q⟩
  | int i =>
    obtain ⟨t, rfl⟩ := ru
    have hl : i.natAbs.log2 < 1920 := by simpa [PyData.showable] using hs
    exact PySem.P.repr_of_int hl ⟨.str (PyData.shown (.int i)), H, I.tok _, ⟨s.toks, by simp [PyData.shown]⟩, q⟩
  | str z =>
    obtain ⟨t, rfl⟩ := ru
    exact PySem.P.repr_of_str ⟨.str (PyData.shown (.str z)), H, I.tok _, ⟨s.toks, by simp [PyData.shown]⟩, q⟩ (by simpa [PyData.shown] using hz)
  | lst _ _ => exact big _ rfl
  | tup _ _ => exact big _ rfl
end Wm
set_option Elab.async false
set_option linter.all false
set_option maxRecDepth 100000
set_option maxHeartbeats 4000000
/-! the bag as one abstract thing; defs promised where no guard stands -/
namespace Wm
open PySem PySem.Spec PyProof.Rows L2
/-! ### the bag -/
def BagO (b l : Addr) : HO := .ext fun h => ∃ (i0 i1 i2 : Int) (t0 t1 t2 : Tok) (n : Nat), h.get? b = some { cls := .type "list", data := .seq #[.int i0 t0, .int i1 t1, .int i2 t2, .ref l] n }
abbrev bagL (l : Addr) (i0 i1 i2 : Int) : List V := [.int i0, .int i1, .int i2, .ref l]
section
variable {X : Cx} {pins : List (Addr × Obj)} {σ : L2.St} {H : Hp} {s : Shared} {b l : Addr}
theorem bag_open (I : Inv X pins σ H s) (hb : H b = some (BagO b l)) : ∃ i0 i1 i2, Inv X pins σ (upd H b (.lst (bagL l i0 i1 i2))) s := by
  obtain ⟨⟨i0, i1, i2, t0, t1, t2, n, e⟩, _, _⟩ := I.hok b _ hb
  refine ⟨i0, i1, i2, I.write (x := b) (e := b) (h' := s.heap) (t' := s.toks) (by rw [hb]; exact True.intro) (.inl rfl) (fun c u _ q => q) ⟨_, e⟩ ?_⟩
  exact ⟨by show 4 ≤ sizeLine; decide, [.int i0 t0, .int i1 t1, .int i2 t2, .ref l], n, .cons ⟨t0, rfl⟩ (.cons ⟨t1, rfl⟩ (.cons ⟨t2, rfl⟩ (.cons rfl .nil))), e⟩
theorem bag_shut {i0 i1 i2 : Int} (I : Inv X pins σ H s) (hb : H b = some (.lst (bagL l i0 i1 i2))) : Inv X pins σ (upd H b (BagO b l)) s := by
  obtain ⟨_, its, n, r, e⟩ := I.hok b _ hb
  cases r with
  | cons r0 r =>
    cases r with
    | cons r1 r =>
      cases r with
      | cons r2 r =>
        cases r with
        | cons r3 r =>
          cases r
          obtain ⟨t0, rfl⟩ := r0
          obtain ⟨t1, rfl⟩ := r1
          obtain ⟨t2, rfl⟩ := r2
          cases r3
          exact I.write (x := b) (e := b) (h' := s.heap) (t' := s.toks) (by rw [hb]; exact True.intro) (.inl rfl) (fun c u _ q => q) ⟨_, e⟩
            ⟨⟨i0, i1, i2, t0, t1, t2, n, e⟩, ⟨_, e⟩, fun h1 h2 ⟨j0, j1, j2, u0, u1, u2, m, z⟩ st => ⟨j0, j1, j2, u0, u1, u2, m, st _ z⟩⟩
end
/-- a body that begins with the bag as a thing and reads and writes it as a list -/
def tBag (b l : Addr) (t : TS) : TS := fun D σ H => H b = some (BagO b l) ∧ ∀ i0 i1 i2, t ⟨fun _ _ => False, fun v H' => ∃ j0 j1 j2, H' b = some (.lst (bagL l j0 j1 j2)) ∧ D.rt v (upd H' b (BagO b l)), fun _ _ => False, fun _ _ => False⟩ σ (upd H b (.lst (bagL l i0 i1 i2)))
theorem pss_bag {X : Cx} {sts : List Stmt} {t : TS} (b l : Addr) (h : PSs X sts t) : PSs X sts (tBag b l t) := by
  refine ⟨fun pins s σ H D I hq => ?_⟩
  obtain ⟨hb, hq⟩ := hq
  obtain ⟨i0, i1, i2, I1⟩ := bag_open I hb
  refine thn (h.run pins s σ _ _ I1 (hq i0 i1 i2)) fun f s' hf => ?_
  cases f with
  | next => obtain ⟨_, _, _, z⟩ := hf; exact z.elim
  | brk => obtain ⟨_, _, _, z⟩ := hf; exact z.elim
  | cont => obtain ⟨_, _, _, z⟩ := hf; exact z.elim
  | ret u =>
    obtain ⟨v, σ', H', I2, r, j0, j1, j2, e, q⟩ := hf
    exact ⟨v, σ', _, bag_shut I2 e, r, q⟩
/-- a body that hands back a new bag -/
def tBagNew (t : TS) : TS := fun D σ H => t ⟨fun _ _ => False, fun v H' => ∃ b l j0 j1 j2, v = .ref b ∧ H' b = some (.lst (bagL l j0 j1 j2)) ∧ D.rt v (upd H' b (BagO b l)), fun _ _ => False, fun _ _ => False⟩ σ H
theorem pss_bagNew {X : Cx} {sts : List Stmt} {t : TS} (h : PSs X sts t) : PSs X sts (tBagNew t) := by
  refine ⟨fun pins s σ H D I hq => ?_⟩
  refine thn (h.run pins s σ _ _ I hq) fun f s' hf => ?_
  cases f with
  | next => obtain ⟨_, _, _, z⟩ := hf; exact z.elim
  | brk => obtain ⟨_, _, _, z⟩ := hf; exact z.elim
  | cont => obtain ⟨_, _, _, z⟩ := hf; exact z.elim
  | ret u =>
    obtain ⟨v, σ', H', I2, r, b, l, j0, j1, j2, ev, e, q⟩ := hf
    exact ⟨v, σ', _, bag_shut I2 e, r, q⟩
/-! ### defs where no guard stands -/
structure FnG (P : Program) (w : World) (K : PySem.W.Frag) (mg : Str → Option Value) (base : Heap) (k : Nat) (f : Addr) (fd : FuncData) (ps : List Str) (sp : Sp) : Prop where
  len : ∀ vs H Q E, sp vs H Q E → vs.length = ps.length
  run : ∀ (A : Around) (outer : List Env) (s : Shared) (H : Hp) (args : Args) (us : List Value) (vs : List V) (Q : VK) (E : XK), A.guards = some [] → Room k A → Env0 P w K mg base A outer s H → BindsTo s fd args (ps.zip us) → Vals vs us → sp vs H Q E →
    codeAny (model P w) A (.call (.ref f) args) (CR CX0 outer P w H s Q E) s
section
variable {P : Program} {w : World} {K : PySem.W.Frag} {mg : Str → Option Value} {base : Heap} {x qual : Str} {params : Arguments} {body : List Stmt} {scope : Scope} {kws : List (Str × V)} {f : Addr} {fd : FuncData}
theorem FnG.ofD {N ps : List Str} {k : Nat} {sp : Sp} (F : FunD K x qual params body scope [] [] f fd) (S : FnScope N ps scope) (len : ∀ vs H Q E, sp vs H Q E → vs.length = ps.length)
    (hbody : ∀ (cdv : Value) (A : Around) (outer : List Env) (s : Shared) (H : Hp) (vs : List V) (Q : VK) (E : XK), A.guards = some [] → Room k (A.deeper (envOfC qual scope s.heap.objs.size f cdv)) → sp vs H Q E →
      ∃ t, PSs (cxOf CX0 P w K mg base N qual scope f cdv A outer s H E).nox body t ∧ t { nx := fun _ H' => Q .non H', rt := Q } (start N vs) H) : FnG P w K mg base (k + 1) f fd ps sp := by
  obtain ⟨oc, od, dV, kV, doc, pm, an, cdv, ct, osl, rfl, lk, hcd, _, _⟩ := F.ex
  refine ⟨len, fun A outer s H args us vs Q E hg hr e0 hb r hsp => ?_⟩
  have hl := len _ _ _ _ hsp
  have KX : K.In s.heap := e0.mod.kin.keeps fun b o e => (e0.bs b o e).1
  have lim : s.heap.NoLimit := e0.mod.nolimit.keeps fun b o e => (e0.bs b o e).1
  refine codeAny_call_function hr.depth (KX _ _ lk) rfl S.co S.gen rfl (PySem.W.codeRec_of KX hcd) (hb _ _ _ _ ?_)
  refine wpAny_newFunctionEnv_cells S.kind (fun ⟨n, v⟩ hy => ?_) fun env he s1 z => ?_
  · rcases S.par n (List.of_mem_zip hy).1 with q | q
    · exact .inl q
    · exact .inr ⟨q, PySem.W.cellsFrom_some _ _ _ (.inl q)⟩
  subst he
  refine ⟨lim.keeps z.toInCall.keep, codeAny_func ?_⟩
  obtain ⟨t, ht, hq⟩ := hbody cdv A outer s H vs Q E hg (hr.deeper _) hsp
  have I : Inv (cxOf CX0 P w K mg base N qual scope f cdv A outer s H E) [] (start N vs) H s1 := inv_start S hr.hd e0 hl r z
  refine wpAny_mono (ht.nox.run [] s1 (start N vs) H _ I hq) (fun fl s' hs => ?_) fun e s' hs => hs
  cases fl with
  | ret u =>
    obtain ⟨v, σ', H', J, rv, q⟩ := hs
    exact ⟨v, H', J.os, J.bare, J.base, J.hok, rv, q⟩
  | next =>
    obtain ⟨σ', H', J, q⟩ := hs
    exact ⟨V.non, H', J.os, J.bare, J.base, J.hok, rfl, q⟩
  | brk => exact hs.elim fun _ h => h.elim fun _ h => h.2.elim
  | cont => exact hs.elim fun _ h => h.elim fun _ h => h.2.elim
end
section
variable {X : Cx} {k : Nat} {f : Addr} {fd : FuncData} {ps : List Str} {sp : Sp} {x : Str} {p pos : Pos} {e : Expr} {es : List Expr} {t : TA}
theorem pe_callG (F : FnG X.prog X.w X.K X.mg X.base k f fd ps sp) (hgd : X.A.guards = some []) (hr : Room k X.A) (hg : Gl X x) (hm : X.mg x = some (.ref f)) (hk : PySem.W.keepIn X.K (.ref f) = true) (hb : Binds X.K fd ps [])
    (ha : PA X (e :: es) t) (hdb : (x == ("__debug__" : Str)) = false := by decide) (he : starEach (e :: es) X.env = (false, eval e X.env) :: starEach es X.env := by rfl) (hpl : (backTo pos (starEach es X.env)).any (·.1) = false := by rfl) :
    PE X (.Call (.Name x p) (e :: es) [] pos) (tCall sp [] E0 t) := by
  refine ⟨fun pins s σ H Q I h => ?_⟩
  refine wpAny_Call_Name_kw (ld_glob I hg hm ?_ hdb)
  refine PySem.W.callWith_K (h₀ := X.base) I.ok.mod.kin hk (thn (ha.run pos pins s σ H _ I h) fun us s1 ⟨vs, H1, I1, r, q⟩ => ⟨I1.kIn, ?_⟩) he hpl
  have q' : sp vs H1 Q E0 := by
    have q2 : sp (vs ++ []) H1 Q E0 := q
    rw [List.append_nil] at q2
    exact q2
  have hl : (us ++ ([] : List Value)).length = ps.length := by rw [List.append_nil, ← r.length]; exact F.len _ _ _ _ q'
  refine wpAny_call (codeAny_mono (F.run X.A X.stack s1 H1 ⟨us, []⟩ (us ++ []) vs Q E0 hgd hr I1.env0 (hb s1 us I1.kIn hl) (by rw [List.append_nil]; exact r) q') fun r s' hq => ?_)
  cases r with
  | error e => exact False.elim hq
  | ok fl =>
    cases fl with
    | ret u => exact I1.after hq
    | next => exact False.elim hq
    | brk => exact False.elim hq
    | cont => exact False.elim hq
end
/-! ### the law's end -/
theorem law_callG {P : Program} {w : World} {K : PySem.W.Frag} {mg mb : Str → Option Value} {k : Nat} {fa a : Addr} {sp : Sp} {s₁ : Shared} {vs : List Value} {ns : List Int}
    (KX : K.In s₁.heap) (hns : s₁.heap.Ns mainGlobals mg) (hb : s₁.heap.Ns builtinsNs mb) (hbb : ∀ x : Str, x ≠ "__name__" → mb x = bootBuiltins x) (hlim : s₁.heap.NoLimit) (hg : s₁.gens = #[])
    (ha : s₁.heap.get? a = some { cls := .type "list", data := .seq vs.toArray }) (hi : IntsAre vs ns) (hl : ns.length ≤ sizeLine) (hr : Room k callerA)
    (F : ∀ base : Heap, K.In base → base.Ns mainGlobals mg → ∀ (A : Around) (outer : List Env) (s : Shared) (H : Hp) (us : List Value) (vs : List V) (Q : VK) (E : XK), A.guards = some [] → Room k A → Env0 P w K mg base A outer s H → Vals vs us → sp vs H Q E → codeAny (model P w) A (.call (.ref fa) ⟨us, []⟩) (CR CX0 outer P w H s Q E) s)
    (hsp : ∀ H : Hp, Only H → SqL K H a (ns.map V.int) → sp [.ref a] H (fun v _ => v = .bl true) fun _ _ _ => False) :
    codeAny (model P w) callerA (.call (.ref fa) ⟨[.ref a], []⟩) (fun r s' => r = .ok (.ret (.bool true)) ∧ OldK s₁.heap s'.heap ∧ s'.os = s₁.os ∧ AllBare s'.gens) s₁ := by
  have rv := vals_ints hi
  have lenV := hi.length
  have core : ∀ H : Hp, Only H → SqL K H a (ns.map V.int) → HOk P w H s₁.heap → (∀ b, H b ≠ none → b = a) → (H a ≠ none → K.lookup a = none) →
      codeAny (model P w) callerA (.call (.ref fa) ⟨[.ref a], []⟩) (fun r s' => r = .ok (.ret (.bool true)) ∧ OldK s₁.heap s'.heap ∧ s'.os = s₁.os ∧ AllBare s'.gens) s₁ := by
    intro H hO hS hok hA hK
    have other : ∀ {b : Addr}, b ≠ a → H b = none := fun {b} n => by
      cases q : H b with
      | none => rfl
      | some u => exact absurd (hA b (by rw [q]; simp)) n
    have dictNe : ∀ {b : Addr} {m : Str → Option Value}, s₁.heap.Ns b m → (hidT s₁.heap H).Ns b m := fun {b m} ⟨o, es, ep, e, d, r⟩ => by
      refine ⟨o, es, ep, hidT_get e (other fun z => ?_), d, r⟩
      rw [z, ha] at e
      cases e
      cases d
    have hKb : K.In (hidT s₁.heap H) := fun b o e => by
      refine hidT_get (KX b o e) ?_
      by_cases z : b = a
      · subst z
        cases q : H b with
        | none => rfl
        | some u =>
          rw [hK (by rw [q]; simp)] at e
          cases e
      · exact other z
    have hM : Mod K mg (hidT s₁.heap H) := ⟨hKb, dictNe hns, ⟨mb, dictNe hb, hbb⟩, let ⟨mc, h1, h2⟩ := hlim; ⟨mc, dictNe h1, h2⟩⟩
    have e0 : Env0 P w K mg (hidT s₁.heap H) callerA [] s₁ H := ⟨rfl, hM, fun b o e => of_hidT e, Nat.le_of_eq (hidT_size _ _), trivial, fun b hb => absurd (show b ∈ ([] : List Addr) from hb) (by simp), hok, .of_eq hg⟩
    refine codeAny_mono (F _ hKb (dictNe hns) callerA [] s₁ H [.ref a] [.ref a] _ _ rfl hr e0 (.cons rfl .nil) (hsp H hO hS)) fun r s' h => ?_
    cases r with
    | error e => exact False.elim h
    | ok fl =>
      cases fl with
      | next => exact False.elim h
      | brk => exact False.elim h
      | cont => exact False.elim h
      | ret u =>
        obtain ⟨v, H', os, bare, un, hok', r', q⟩ := h
        have q' : v = .bl true := q
        subst q'
        obtain rfl : u = Value.bool true := r'
        refine ⟨rfl, OldK.of_keep fun b o e => ?_, os, bare⟩
        rcases hO b with z | ⟨ob, xs, z⟩
        · exact un.keep b o e z (fun z2 => absurd (show b ∈ ([] : List Addr) from z2) (by simp)) (by simp)
        · obtain ⟨e1, _⟩ := hok b _ z
          obtain ⟨e2, _⟩ := hok' b _ (un.frzs b ob _ z)
          rw [e] at e1
          cases e1
          exact e2
  cases hk : K.lookup a with
  | some o =>
    have e := KX a o hk
    rw [ha] at e
    cases e
    exact core (fun _ => none) (fun _ => .inl rfl) (.inr ⟨_, vs.toArray, _, hk, rfl, rfl, rfl, by rw [List.size_toArray, lenV]; exact hl, by simpa using rv⟩) (fun b u z => by have z' : (none : Option HO) = some u := z; cases z') (fun b z => absurd rfl z) fun z => absurd rfl z
  | none =>
    refine core (fun b => if b = a then some (.frz { cls := .type "list", data := .seq vs.toArray } (.lst (ns.map V.int))) else none) (fun b => ?_) (.inl (.inr ⟨{ cls := .type "list", data := .seq vs.toArray }, if_pos rfl⟩)) (fun b u z => ?_) (fun b z => ?_) fun _ => hk
    · by_cases hb : b = a
      · exact .inr ⟨_, _, if_pos hb⟩
      · exact .inl (if_neg hb)
    · by_cases hb : b = a
      · have z' := (if_pos hb).symm.trans z
        cases z'
        subst hb
        exact ⟨ha, by rw [List.length_map]; exact hl, vs, _, rv, ha⟩
      · have z' := (if_neg hb).symm.trans z
        cases z'
    · by_cases hb : b = a
      · exact hb
      · exact absurd (if_neg hb) z
theorem walk_ofG {l : PySem.W.OpenLaw} {n k : Nat} {q : Program} {loose : List Str} {XP : (Str → Option Value) → Heap → Prop} {YP : World → Heap → Prop} {d : DefRec}
    (hn : l.most = some n) (hn2 : n ≤ sizeLine) (hdf : d.params.defaults = []) (hr : Room k callerA)
    (F : ∀ (w : World) (mg : Str → Option Value) (fa : Addr) (h : Heap), YP w h → h.Ns mainGlobals mg → mg d.name = some (.ref fa) →
      ∃ (K : PySem.W.Frag) (sp : Sp), K.In h ∧
        (∀ (H : Hp) (a : Addr) (ns : List Int), ns.length ≤ n → Only H → SqL K H a (ns.map V.int) → sp [.ref a] H (fun v _ => v = .bl true) fun _ _ _ => False) ∧
        ∀ base : Heap, K.In base → base.Ns mainGlobals mg → ∀ (A : Around) (outer : List Env) (s : Shared) (H : Hp) (us : List Value) (vs : List V) (Q : VK) (E : XK), A.guards = some [] → Room k A → Env0 l.prog w K mg base A outer s H → Vals vs us → sp vs H Q E → codeAny (model l.prog w) A (.call (.ref fa) ⟨us, []⟩) (CR CX0 outer l.prog w H s Q E) s) :
    PySem.W.WalkO q loose XP YP l.row.toRowW d [] (fun f vs => PySem.call f vs) := by
  refine Att.attach_call hn hdf fun w s₀ s₁ mg mb fa o pm cd doc a vs ns G Y ho hd hcd hmg hobj hints hlen hg => ?_
  obtain ⟨K, sp, KX, hsp, hF⟩ := F w mg fa _ Y G.T.g hmg
  exact law_callG KX G.T.g G.T.b G.T.builtins G.T.nolimit hg hobj hints (Nat.le_trans hlen hn2) hr hF fun H hO hS => hsp H a ns hlen hO hS
end Wm
set_option Elab.async false
set_option linter.all false
set_option maxRecDepth 100000
set_option maxHeartbeats 4000000
/-! heaps that only grow, data, comprehensions -/
namespace Wm
open PySem PySem.Spec PyProof.Rows L2
variable {K : PySem.W.Frag} {H H' H1 H2 H0 : Hp} {a b p l : Addr} {o : HO}
/-! ### growth -/
theorem Same.new (h : H p = none) : Same H (upd H p o) := fun c u e => by
  rw [upd_ne (ne_of_none e h)]
  exact e
theorem Same.new' (e : Same H0 H) (h : H p = none) : Same H0 (upd H p o) := e.trans (Same.new h)
/-- an object younger than H0 changes -/
theorem Same.mut (e : Same H0 H) (h : H0 p = none) : Same H0 (upd H p o) := fun c u q => by
  rw [upd_ne (ne_of_none q h)]
  exact e c u q
theorem ne_none_of (e : Same H H') (h : H' p = none) : H p = none := by
  cases q : H p with
  | none => rfl
  | some u => rw [e _ _ q] at h; cases h
theorem same_t {xs : List V} (e : Same H H') (h : SqT K H a xs) : SqT K H' a xs := by
  rcases h with (h | ⟨o, h⟩) | h
  · exact .inl (.inl (e _ _ h))
  · exact .inl (.inr ⟨o, e _ _ h⟩)
  · exact .inr h
mutual
theorem dp_mono (e : Same H H') : ∀ {v : V} {d : PyData}, Dp K H v d → Dp K H' v d
  | _, _, .non => .non
  | _, _, .bl b => .bl b
  | _, _, .int i => .int i
  | _, _, .str x => .str x
  | _, _, .lst h1 h2 => .lst (e.seq h1) (dpa_mono e h2)
  | _, _, .tup h1 h2 => .tup (same_t e h1) (dpa_mono e h2)
theorem dpa_mono (e : Same H H') : ∀ {vs : List V} {ds : List PyData}, DpAll K H vs ds → DpAll K H' vs ds
  | _, _, .nil => .nil
  | _, _, .cons h1 h2 => .cons (dp_mono e h1) (dpa_mono e h2)
end
theorem dpa_len : ∀ {vs : List V} {ds : List PyData}, DpAll K H vs ds → vs.length = ds.length
  | _, _, .nil => rfl
  | _, _, .cons _ h => by rw [List.length_cons, List.length_cons, dpa_len h]
theorem dpa_get : ∀ {vs : List V} {ds : List PyData} {i : Nat} {x : V}, DpAll K H vs ds → vs[i]? = some x → ∃ d, ds[i]? = some d ∧ Dp K H x d
  | _, _, _, _, .nil, e => by simp at e
  | _, _, 0, _, .cons h _, e => by simp at e; subst e; exact ⟨_, rfl, h⟩
  | _, _, i + 1, x, .cons _ t, e => by
    obtain ⟨d, h1, h2⟩ := dpa_get (i := i) (x := x) t (by simpa using e)
    exact ⟨d, by simpa using h1, h2⟩
theorem dpa_at : ∀ {vs : List V} {ds : List PyData} {i : Nat} {d : PyData}, DpAll K H vs ds → ds[i]? = some d → ∃ x, vs[i]? = some x ∧ Dp K H x d
  | _, _, _, _, .nil, e => by simp at e
  | _, _, 0, _, .cons h _, e => by simp at e; subst e; exact ⟨_, rfl, h⟩
  | _, _, i + 1, x, .cons _ t, e => by
    obtain ⟨d, h1, h2⟩ := dpa_at (i := i) t (by simpa using e)
    exact ⟨d, by simpa using h1, h2⟩
theorem dpa_app : ∀ {vs ws : List V} {ds es : List PyData}, DpAll K H vs ds → DpAll K H ws es → DpAll K H (vs ++ ws) (ds ++ es)
  | _, _, _, _, .nil, h => h
  | _, _, _, _, .cons h t, q => .cons h (dpa_app t q)
theorem dpa_take : ∀ {vs : List V} {ds : List PyData} (n : Nat), DpAll K H vs ds → DpAll K H (vs.take n) (ds.take n)
  | _, _, 0, _ => .nil
  | _, _, _ + 1, .nil => .nil
  | _, _, n + 1, .cons h t => .cons h (dpa_take n t)
theorem dpa_drop : ∀ {vs : List V} {ds : List PyData} (n : Nat), DpAll K H vs ds → DpAll K H (vs.drop n) (ds.drop n)
  | _, _, 0, h => h
  | _, _, _ + 1, .nil => .nil
  | _, _, n + 1, .cons _ t => dpa_drop n t
theorem dpa_set {x : V} {d : PyData} (hx : Dp K H x d) : ∀ {vs : List V} {ds : List PyData} (n : Nat), DpAll K H vs ds → DpAll K H (vs.set n x) (ds.set n d)
  | _, _, _, .nil => .nil
  | _, _, 0, .cons _ t => .cons hx t
  | _, _, n + 1, .cons h t => .cons h (dpa_set hx n t)
theorem dpa_map {α : Type} {f : α → V} {g : α → PyData} (h : ∀ x, Dp K H (f x) (g x)) : ∀ xs : List α, DpAll K H (xs.map f) (xs.map g)
  | [] => .nil
  | x :: xs => .cons (h x) (dpa_map h xs)
theorem dpa_of {α : Type} {g : α → PyData} : ∀ {vs : List V} {xs : List α}, vs.length = xs.length → (∀ (i : Nat) (v : V) (x : α), vs[i]? = some v → xs[i]? = some x → Dp K H v (g x)) → DpAll K H vs (xs.map g)
  | [], [], _, _ => .nil
  | v :: vs, x :: xs, hl, h => .cons (h 0 v x rfl rfl) (dpa_of (by simpa using hl) fun i v x h1 h2 => h (i + 1) v x h1 h2)
  | [], _ :: _, hl, _ => by simp at hl
  | _ :: _, [], hl, _ => by simp at hl
/-- data without references determine the values -/
theorem dpa_flat {α : Type} {f : α → V} {g : α → PyData} (h : ∀ (v : V) (x : α), Dp K H v (g x) → v = f x) : ∀ {vs : List V} {xs : List α}, DpAll K H vs (xs.map g) → vs = xs.map f
  | [], [], _ => rfl
  | v :: vs, x :: xs, .cons h1 h2 => by rw [h v x h1, dpa_flat h h2]; rfl
  | [], _ :: _, q => by cases q
  | _ :: _, [], q => by cases q
theorem dp_tup {v : V} {ds : List PyData} (h : Dp K H v (.tuple ds)) : ∃ a xs, v = .ref a ∧ SqT K H a xs ∧ DpAll K H xs ds := by
  cases h with
  | tup h1 h2 => exact ⟨_, _, rfl, h1, h2⟩
theorem dp_lst {v : V} {ds : List PyData} (h : Dp K H v (.list ds)) : ∃ a xs, v = .ref a ∧ SqL K H a xs ∧ DpAll K H xs ds := by
  cases h with
  | lst h1 h2 => exact ⟨_, _, rfl, h1, h2⟩
theorem dp_int {v : V} {i : Int} (h : Dp K H v (.int i)) : v = .int i := by cases h; rfl
theorem dp_non {v : V} (h : Dp K H v .none) : v = .non := by cases h; rfl
theorem dp_str {v : V} {z : Str} (h : Dp K H v (.str z)) : v = .str z := by cases h; rfl
theorem dp_newT {xs : List V} {ds : List PyData} (h : H p = none) (r : DpAll K H xs ds) : Dp K (upd H p (.tup xs)) (.ref p) (.tuple ds) := .tup (SqT.of upd_same) (dpa_mono (Same.new h) r)
theorem dp_pair {x y : V} {d e : PyData} (h : H p = none) (r : Dp K H x d) (q : Dp K H y e) : Dp K (upd H p (.tup [x, y])) (.ref p) (.tuple [d, e]) := dp_newT h (.cons r (.cons q .nil))
/-! ### the bag -/
def Bag (H : Hp) (b : Addr) : Prop := ∃ (l : Addr) (ns : List Int), H b = some (BagO b l) ∧ H l = some (.lst (ns.map V.int)) ∧ ns.length ≤ 1000
theorem Bag.mono (h : Bag H b) (e : Same H H') : Bag H' b := let ⟨l, ns, h1, h2, h3⟩ := h; ⟨l, ns, e _ _ h1, e _ _ h2, h3⟩
/-! ### walks -/
theorem walk_enumT {xs : List V} : Walk (Itu K a) xs.length (fun H => SqT K H a xs) (YPair (fun i => some (.int (i : Nat))) (fun i => xs[i]?)) := by
  refine ⟨fun i _ hi q => ⟨xs, xs[i], q, by simp [hi]⟩, fun _ q => ⟨xs, q, rfl⟩, fun i H v H' _ q y => ?_⟩
  obtain ⟨T, x, h1, h2, h3, h4⟩ := y
  exact ⟨T, .int (i : Nat), x, h1, h2, h3, rfl, h4 xs q⟩
theorem walk_zipM {xs ys : List V} (hl : xs.length = ys.length) : Walk (ItzM K a b) xs.length (fun H => SqL K H a xs ∧ SqT K H b ys) (YPair (fun i => xs[i]?) (fun i => ys[i]?)) := by
  refine ⟨fun i _ hi q => ?_, fun _ q => ⟨xs, ys, q.1, q.2, rfl, hl.symm⟩, fun i H v H' _ q y => ?_⟩
  · have h2 : i < ys.length := by omega
    exact ⟨xs, ys, xs[i], ys[i], q.1, q.2, by simp [hi], by simp [h2]⟩
  · obtain ⟨T, x, z, h1, h2, h3, h4, h5⟩ := y
    exact ⟨T, x, z, h1, h2, h3, h4 xs q.1, h5 ys q.2⟩
/-! ### comprehensions -/
theorem pd_mono {α β : Type} {F G : α → β → Prop} : ∀ {l : List α} {m : List β}, Paired F l m → (∀ a b, F a b → G a b) → Paired G l m
  | _, _, .nil, _ => .nil
  | _, _, .cons h t, f => .cons (f _ _ h) (pd_mono t f)
theorem pd_snoc {α β : Type} {F : α → β → Prop} {x : α} {y : β} (h : F x y) : ∀ {l : List α} {m : List β}, Paired F l m → Paired F (l ++ [x]) (m ++ [y])
  | _, _, .nil => .cons h .nil
  | _, _, .cons q t => .cons q (pd_snoc h t)
theorem comp_rule {J : It} {n : Nat} {G : Hp → Prop} {Y : Nat → Hp → V → Hp → Prop} (w : Walk J n G Y) {g : TG} {tt : TT} {te : TE} {vs : List Nat} {σ : L2.St} {Q : VK} (f : Nat → Bool) (R : Nat → V → Prop)
    (hG : ∀ H', Same H1 H' → G H') (hn : n ≤ 100000)
    (hs : ∀ i x H' H'', i < n → Same H1 H' → Y i H' x H'' → ∀ (Z : VK) (N : Hp → Prop), (∀ y H4, f i = true → Same H' H4 → R i y → Z y H4) → (∀ H4, f i = false → Same H' H4 → N H4) →
      g x (wipe σ vs) H'' fun σ2 H2 => wipe σ2 vs = wipe σ vs ∧ tt σ2 H2 fun b H3 => if b = true then te σ2 H3 Z else N H3)
    (hd : ∀ D H' ys, H1 D = none → Same H1 H' → H' D = some (.lst ys) → Paired R ((List.range n).filter f) ys → Q (.ref D) H') :
    ∀ D, H1 D = none → ∃ W : Nat → Nat → Hp → Prop, (∃ m, W 0 m (upd H1 D (.lst []))) ∧ ∀ i m H, W i m H →
      (J.stop i H ∧ Q (.ref D) H) ∨ (J.go i H ∧ ∃ Nx : Hp → Prop, (∀ H', Nx H' → ∃ m', m' < m ∧ W (i + 1) m' H') ∧ ∀ x H', J.yld i H x H' → g x (wipe σ vs) H' fun σ2 H2 => wipe σ2 vs = wipe σ vs ∧ tt σ2 H2 fun b H3 =>
        if b = true then te σ2 H3 fun y H4 => ∃ acc, H4 D = some (.lst acc) ∧ acc.length < sizeLine ∧ Nx (upd H4 D (.lst (acc ++ [y]))) else Nx H3) := by
  intro D hD
  refine lc_it w (fun i H' => Same H1 H' ∧ ∃ ys, H' D = some (.lst ys) ∧ ys.length ≤ i ∧ Paired R ((List.range i).filter f) ys) ⟨Same.new hD, [], upd_same, Nat.le_refl _, .nil⟩ (fun i H' hi p => hG H' p.1)
    (fun i x H' H'' hi p y => ?_) fun H' p => ?_
  · obtain ⟨e, ys, hy, hl, hp⟩ := p
    refine hs i x H' H'' hi e y _ _ (fun y H4 hf e4 r => ⟨ys, e4 _ _ hy, ?_, Same.mut (e.trans e4) hD, ys ++ [y], upd_same, ?_, ?_⟩) fun H4 hf e4 => ⟨e.trans e4, ys, e4 _ _ hy, Nat.le_succ_of_le hl, ?_⟩
    · have : sizeLine = 16777216 := rfl
      omega
    · rw [List.length_append, List.length_singleton]
      omega
    · rw [List.range_succ, List.filter_append, List.filter_cons, if_pos hf]
      exact pd_snoc r hp
    · rw [List.range_succ, List.filter_append, List.filter_cons, if_neg (by rw [hf]; decide)]
      show Paired _ (_ ++ []) _
      rw [List.append_nil]
      exact hp
  · obtain ⟨e, ys, hy, _, hp⟩ := p
    exact hd D H' ys hD e hy hp
theorem pd_fun {α β : Type} {v : α → β} : ∀ {l : List α} {m : List β}, Paired (fun i y => y = v i) l m → m = l.map v
  | _, _, .nil => rfl
  | _, _, .cons h t => by rw [h, pd_fun t]; rfl
/-- the values told by a function -/
theorem comp_fun {J : It} {n : Nat} {G : Hp → Prop} {Y : Nat → Hp → V → Hp → Prop} (w : Walk J n G Y) {g : TG} {tt : TT} {te : TE} {vs : List Nat} {σ : L2.St} {Q : VK} (f : Nat → Bool) (v : Nat → V)
    (hG : ∀ H', Same H1 H' → G H') (hn : n ≤ 100000)
    (hs : ∀ i x H' H'', i < n → Same H1 H' → Y i H' x H'' → ∀ (Z : VK) (N : Hp → Prop), (∀ H4, f i = true → Same H' H4 → Z (v i) H4) → (∀ H4, f i = false → Same H' H4 → N H4) →
      g x (wipe σ vs) H'' fun σ2 H2 => wipe σ2 vs = wipe σ vs ∧ tt σ2 H2 fun b H3 => if b = true then te σ2 H3 Z else N H3)
    (hd : ∀ D H', H1 D = none → Same H1 H' → H' D = some (.lst (((List.range n).filter f).map v)) → Q (.ref D) H') :
    ∀ D, H1 D = none → ∃ W : Nat → Nat → Hp → Prop, (∃ m, W 0 m (upd H1 D (.lst []))) ∧ ∀ i m H, W i m H →
      (J.stop i H ∧ Q (.ref D) H) ∨ (J.go i H ∧ ∃ Nx : Hp → Prop, (∀ H', Nx H' → ∃ m', m' < m ∧ W (i + 1) m' H') ∧ ∀ x H', J.yld i H x H' → g x (wipe σ vs) H' fun σ2 H2 => wipe σ2 vs = wipe σ vs ∧ tt σ2 H2 fun b H3 =>
        if b = true then te σ2 H3 fun y H4 => ∃ acc, H4 D = some (.lst acc) ∧ acc.length < sizeLine ∧ Nx (upd H4 D (.lst (acc ++ [y]))) else Nx H3) :=
  comp_rule w f (fun i y => y = v i) hG hn (fun i x H' H'' hi e y Z N hz hN => hs i x H' H'' hi e y Z N (fun H4 hf e4 => hz _ H4 hf e4 rfl) hN)
    fun D H' ys hD e hy hp => hd D H' hD e (by rw [hy, pd_fun hp])
end Wm
set_option Elab.async false
set_option linter.all false
set_option maxRecDepth 100000
set_option maxHeartbeats 4000000
/-! where one stands; calls by name -/
namespace Wm
open PySem PySem.Spec PyProof.Rows L2
structure Wd (K : PySem.W.Frag) (mg : Str → Option Value) (base : Heap) : Prop where
  inn : K.In base
  ns : base.Ns mainGlobals mg
  says : He.SaysD fa fn K
  ex : exB K = true
abbrev FunAt (K : PySem.W.Frag) (x qual : Str) (st : Stmt) (f : Addr) (fd : FuncData) : Prop := FunD K x qual (defArgs st) (defBody st) (defScope st) [] [] f fd
def FnRG (P : Program) (w : World) (K : PySem.W.Frag) (mg : Str → Option Value) (base : Heap) (k : Nat) (f : Addr) (sp : Sp) : Prop :=
  ∀ (A : Around) (outer : List Env) (s : Shared) (H : Hp) (us : List Value) (vs : List V) (Q : VK) (E : XK), A.guards = some [] → Room k A → Env0 P w K mg base A outer s H → Vals vs us → sp vs H Q E →
    codeAny (model P w) A (.call (.ref f) ⟨us, []⟩) (CR CX0 outer P w H s Q E) s
structure Dn (P : Program) (w : World) (K : PySem.W.Frag) (mg : Str → Option Value) (base : Heap) (k : Nat) (x : Str) (sp : Sp) : Prop where
  ex : ∃ f, FnR P w K mg base CX0 k f sp ∧ mg x = some (.ref f) ∧ PySem.W.keepIn K (.ref f) = true
structure DnG (P : Program) (w : World) (K : PySem.W.Frag) (mg : Str → Option Value) (base : Heap) (k : Nat) (x : Str) (sp : Sp) : Prop where
  ex : ∃ f, FnRG P w K mg base k f sp ∧ mg x = some (.ref f) ∧ PySem.W.keepIn K (.ref f) = true
section
variable {P : Program} {w : World} {K : PySem.W.Frag} {mg : Str → Option Value} {base : Heap} {k : Nat} {x qual : Str} {sp : Sp} {f : Addr} {fd : FuncData} {ps : List Str}
theorem Dn.g (D : Dn P w K mg base k x sp) : DnG P w K mg base k x sp :=
  let ⟨f, F, h1, h2⟩ := D.ex
  ⟨f, fun A outer s H us vs Q E _ hr e0 r h => F A outer s H us vs Q E hr e0 r h, h1, h2⟩
theorem FnG.raw (F : FnG P w K mg base k f fd ps sp) (hb : Binds K fd ps []) : FnRG P w K mg base k f sp := by
  intro A outer s H us vs Q E hg hr e0 r hs
  have hl : (us ++ []).length = ps.length := by rw [List.append_nil, ← r.length]; exact F.len _ _ _ _ hs
  exact F.run A outer s H ⟨us, []⟩ us vs Q E hg hr e0 (by have := hb s us (e0.mod.kin.keeps fun b o e => (e0.bs b o e).1) hl; rwa [List.append_nil] at this) r hs
theorem FnR.of (F : FnOk P w K mg base CX0 k f fd ps sp) (hb : Binds K fd ps []) : FnR P w K mg base CX0 k f sp := by
  intro A outer s H us vs Q E hr e0 r hs
  have hl : (us ++ []).length = ps.length := by rw [List.append_nil, ← r.length]; exact F.len _ _ _ _ hs
  exact F.run A outer s H ⟨us, []⟩ us vs Q E hr e0 (by have := hb s us (e0.mod.kin.keeps fun b o e => (e0.bs b o e).1) hl; rwa [List.append_nil] at this) r hs
theorem Wd.free (W : Wd K mg base) (j : Nat) {y : Str} (h : fa[j]? = some (.free y) := by rfl) : mg y = none := He.free_ok W.inn W.ns (W.says.fact j h)
theorem Wd.glo (W : Wd K mg base) (j : Nat) {y : Str} (h : fa[j]? = some (.glo y) := by rfl) : mg y = some (.ref (He.ga K y)) := He.glo_ok W.inn W.ns (W.says.fact j h)
/-- a def of the top keeps its promise -/
theorem Wd.dn (W : Wd K mg base) (i j : Nat) {st : Stmt} (hi : fn[i]? = some ⟨(x, none), x, qual, defArgs st, defBody st, defScope st, [], []⟩) (hj : fa[j]? = some (.glo x))
    (hb : ∀ (kV doc pm : Value) (an : Option Addr) (cdv ct : Value) (us : List Value), us.length = ps.length → bindArgs (PySem.W.fnOf x qual (defArgs st) (defBody st) (defScope st) .none kV doc pm an cdv ct) ⟨us, []⟩ = pure (ps.zip us))
    (h : ∀ f fd, FunAt K x qual st f fd → FnOk P w K mg base CX0 k f fd ps sp) : Dn P w K mg base k x sp := by
  obtain ⟨fd, F⟩ := W.says.def_ i hi
  have F' : FunAt K x qual st (He.ga K x) fd := F
  exact ⟨_, FnR.of (h _ _ F') (F'.bindsN hb), W.glo j hj, F'.kp⟩
theorem Wd.dnG (W : Wd K mg base) (i j : Nat) {st : Stmt} (hi : fn[i]? = some ⟨(x, none), x, qual, defArgs st, defBody st, defScope st, [], []⟩) (hj : fa[j]? = some (.glo x))
    (hb : ∀ (kV doc pm : Value) (an : Option Addr) (cdv ct : Value) (us : List Value), us.length = ps.length → bindArgs (PySem.W.fnOf x qual (defArgs st) (defBody st) (defScope st) .none kV doc pm an cdv ct) ⟨us, []⟩ = pure (ps.zip us))
    (h : ∀ f fd, FunAt K x qual st f fd → FnG P w K mg base k f fd ps sp) : DnG P w K mg base k x sp := by
  obtain ⟨fd, F⟩ := W.says.def_ i hi
  have F' : FunAt K x qual st (He.ga K x) fd := F
  exact ⟨_, FnG.raw (h _ _ F') (F'.bindsN hb), W.glo j hj, F'.kp⟩
end
section
variable {X : Cx} {k : Nat} {sp : Sp} {x : Str} {p pos : Pos} {e : Expr} {es : List Expr} {t : TA} {pins : List (Addr × Obj)} {σ : L2.St} {H : Hp} {s : Shared}
theorem run_fnRG {f : Addr} {Q : VK} {us : List Value} {vs : List V} (F : FnRG X.prog X.w X.K X.mg X.base k f sp) (hgd : X.A.guards = some []) (hr : Room k X.A) (I : Inv X pins σ H s) (r : Vals vs us) (h : sp vs H Q E0) :
    codeAny (model X.prog X.w) X.A (.call (.ref f) ⟨us, []⟩) (fun r s' => match r with | .ok (.ret u) => EP X pins σ Q u s' | .ok _ => False | .error e => X.xe e s') s := by
  refine codeAny_mono (F X.A X.stack s H us vs Q E0 hgd hr I.env0 r h) fun r s' hq => ?_
  cases r with
  | error e => exact False.elim hq
  | ok fl =>
    cases fl with
    | ret u => exact I.after hq
    | next => exact False.elim hq
    | brk => exact False.elim hq
    | cont => exact False.elim hq
theorem pe_fnG (D : DnG X.prog X.w X.K X.mg X.base k x sp) (hgd : X.A.guards = some []) (hr : Room k X.A) (hg : Gl X x)
    (ha : PA X (e :: es) t) (hdb : (x == ("__debug__" : Str)) = false := by decide) (he : starEach (e :: es) X.env = (false, eval e X.env) :: starEach es X.env := by rfl) (hpl : (backTo pos (starEach es X.env)).any (·.1) = false := by rfl) :
    PE X (.Call (.Name x p) (e :: es) [] pos) (tCall sp [] E0 t) := by
  obtain ⟨f, F, hm, hk⟩ := D.ex
  refine ⟨fun pins s σ H Q I h => ?_⟩
  refine wpAny_Call_Name_kw (ld_glob I hg hm ?_ hdb)
  refine PySem.W.callWith_K (h₀ := X.base) I.ok.mod.kin hk (thn (ha.run pos pins s σ H _ I h) fun us s1 ⟨vs, H1, I1, r, q⟩ => ⟨I1.kIn, ?_⟩) he hpl
  have q' : sp vs H1 Q E0 := by
    have q2 : sp (vs ++ []) H1 Q E0 := q
    rw [List.append_nil] at q2
    exact q2
  refine wpAny_call (codeAny_mono (run_fnRG F hgd hr I1 r q') fun r s' hq => ?_)
  cases r with
  | error e => exact hq
  | ok fl =>
    cases fl with
    | ret u => exact hq
    | next => exact hq.elim
    | brk => exact hq.elim
    | cont => exact hq.elim
theorem pe_fn (D : Dn X.prog X.w X.K X.mg X.base k x sp) (hr : Room k X.A) (hg : Gl X x)
    (ha : PA X (e :: es) t) (hdb : (x == ("__debug__" : Str)) = false := by decide) (he : starEach (e :: es) X.env = (false, eval e X.env) :: starEach es X.env := by rfl) (hpl : (backTo pos (starEach es X.env)).any (·.1) = false := by rfl) :
    PE X (.Call (.Name x p) (e :: es) [] pos) (tCall sp [] E0 t) := by
  obtain ⟨f, F, hm, hk⟩ := D.ex
  refine ⟨fun pins s σ H Q I h => ?_⟩
  refine wpAny_Call_Name_kw (ld_glob I hg hm ?_ hdb)
  refine PySem.W.callWith_K (h₀ := X.base) I.ok.mod.kin hk (thn (ha.run pos pins s σ H _ I h) fun us s1 ⟨vs, H1, I1, r, q⟩ => ⟨I1.kIn, ?_⟩) he hpl
  have q' : sp vs H1 Q E0 := by
    have q2 : sp (vs ++ []) H1 Q E0 := q
    rw [List.append_nil] at q2
    exact q2
  exact wpAny_call (run_fnR F hr pass0 I1 r q')
end
end Wm
set_option Elab.async false
set_option linter.all false
set_option maxRecDepth 100000
set_option maxHeartbeats 4000000
/-! rules that take either kind -/
namespace Wm
open PySem PySem.Spec PyProof.Rows L2
section
variable {X : Cx} {K : PySem.W.Frag}
theorem OpR_or {f : Value → Value → Sem Value} {r r' : R2} (h : OpR X f r) (h' : OpR X f r') : OpR X f (fun x y H Q => r x y H Q ∨ r' x y H Q) :=
  fun pins s σ H x y v u Q I rx ry q => q.elim (fun q => h pins s σ H x y v u Q I rx ry q) fun q => h' pins s σ H x y v u Q I rx ry q
theorem CallR_or {f : Value} {r r' : List V → Hp → VK → Prop} (h : CallR X f r) (h' : CallR X f r') : CallR X f (fun xs H Q => r xs H Q ∨ r' xs H Q) :=
  fun pins s σ H xs us Q I rx q => q.elim (fun q => h pins s σ H xs us Q I rx q) fun q => h' pins s σ H xs us Q I rx q
abbrev rAdd (K : PySem.W.Frag) : R2 := fun x y H Q => rI0 (fun i j => .int (i + j)) x y H Q ∨ (rCat x y H Q ∨ rCatA K x y H Q)
theorem op_addA (hK : X.K = K := by rfl) : OpR X (binaryOp .Add) (rAdd K) := by
  subst hK
  exact OpR_or op_add (OpR_or op_cat op_catA)
abbrev rEqA (K : PySem.W.Frag) : R2 := fun x y H Q => rEq x y H Q ∨ rEqD K x y H Q
abbrev rNeA (K : PySem.W.Frag) : R2 := fun x y H Q => rNe x y H Q ∨ rNeD K x y H Q
theorem op_eqA (hu : X.A.units + 64 < cLine) (hK : X.K = K := by rfl) : OpR X (compareOp .Eq) (rEqA K) := by
  subst hK
  exact OpR_or op_eq (op_eqD hu)
theorem op_neA (hu : X.A.units + 64 < cLine) (hK : X.K = K := by rfl) : OpR X (compareOp .NotEq) (rNeA K) := by
  subst hK
  exact OpR_or op_ne (op_neD hu)
theorem op_inA (hK : X.K = K := by rfl) : OpR X (compareOp .In) (rIn K false) := by subst hK; exact op_in_seq
theorem op_niA (hK : X.K = K := by rfl) : OpR X (compareOp .NotIn) (rIn K true) := by subst hK; exact op_notIn_seq
abbrev rSlo (K : PySem.W.Frag) : V → Option Int → Option Int → Hp → VK → Prop := fun x lo hi H Q => rSlL K x lo hi H Q ∨ rSlA K x lo hi H Q
theorem sl_any (hK : X.K = K := by rfl) : SlR X (rSlo K) := by subst hK; exact sl_list.or sl_tupA
abbrev rLenS (K : PySem.W.Frag) : List V → Hp → VK → Prop := fun xs H Q => ∃ p ys, xs = [.ref p] ∧ (SqL K H p ys ∨ SqT K H p ys) ∧ Q (.int (ys.length : Nat)) H
theorem call_lenK (hK : X.K = K := by rfl) : CallR X (.builtin "len") (rLenS K) := by subst hK; exact call_len_seq
theorem mt_tcountK (hK : X.K = K := by rfl) : MtR X "tuple.count" (rCntT K) := by subst hK; exact mt_tcount
theorem pi_listK {tg l : Expr} {tl : TE} (hl : PE X l tl) (hK : X.K = K := by rfl) : PI X tg l (iList K tl) := by subst hK; exact pi_list hl
theorem pi_tupK {tg l : Expr} {tl : TE} (hl : PE X l tl) (hK : X.K = K := by rfl) : PI X tg l (iTup K tl) := by subst hK; exact pi_tup hl
theorem pg_tupK {es : List Expr} {k : Nat} {pos : Pos} {t : TGs} {n : Nat} (hc : X.calm = true) (h : PGs X es t) (hK : X.K = K := by rfl)
    (hn : (assignEach es X.env).length = n := by rfl) (hst : (assignEach es X.env).findIdx? (·.1) = none := by rfl) : PG X (.Tuple es k pos) (gTup K n t) := by subst hK; exact pg_tup hc h hn hst
theorem cr_allK (hc : X.calm = true) (hK : X.K = K := by rfl) : CallR X (.builtin "all") (rAll K) := by subst hK; exact cr_all hc
theorem pe_bmK {o e : Expr} {es : List Expr} {to : TE} {t : TA} {name : Str} {apos cpos : Pos} {T id : String} {r : V → List V → Hp → VK → Prop} (pa : PlainAttrs T) (slot : Slot T name id) (hty : typeOf (.builtin id) = pure (.type "method_descriptor")) (hm : MtR X id r) (ho : PE X o to) (ha : PA X (e :: es) t)
    (hK : X.K = K := by rfl) (hbase : attributeBase o name X.env (eval o X.env) = eval o X.env := by rfl)
    (hfew : ((backTo cpos (starEach (e :: es) X.env)).all (fun x => !x.1) && (backToKw cpos (keywordEach [] X.env)).all (fun x => x.1.isSome)
      && decide ((e :: es).length + ([] : List Keyword).length + (if ([] : List Keyword).isEmpty then 0 else 1) < 30)) = true := by rfl)
    (hline : (apos.endLine == cpos.line) = true := by rfl) (hs : starEach (e :: es) X.env = (false, eval e X.env) :: starEach es X.env := by rfl) (hplain : (backTo cpos (starEach es X.env)).any (·.1) = false := by rfl) :
    PE X (.Call (.Attribute o name apos) (e :: es) [] cpos) (tBM K T r to t) := by
  subst hK
  exact pe_bm pa slot hty hm ho ha hbase hfew hline hs hplain
theorem ix_any (hK : X.K = K := by rfl) : IxR X (rIx K) := by subst hK; exact ix_seq
end
/-! the class's facts, its methods -/
abbrev SC0 (K : PySem.W.Frag) : Addr := He.ga K "Store"
section
variable {P : Program} {w : World} {K : PySem.W.Frag} {mg : Str → Option Value} {base : Heap} {k : Nat} {m qual : Str} {sp : Sp} {ps : List Str}
theorem Wd.sc (W : Wd K mg base) : SlX.SCls K (SC0 K) := by
  have h := W.ex
  unfold exB at h
  exact scB_ok (He.ba h).1
theorem Wd.sl (W : Wd K mg base) (i : Nat) (hi : i < 9) : ∃ p, SlX.Slot1 K (SC0 K) (slots.getD i "") p i := by
  have h := W.ex
  unfold exB at h
  have h2 := List.all_eq_true.mp (He.ba h).2 i (List.mem_range.mpr hi)
  exact slB_ok h2 (by omega)
structure DnM (P : Program) (w : World) (K : PySem.W.Frag) (mg : Str → Option Value) (base : Heap) (k : Nat) (m : Str) (sp : Sp) : Prop where
  fn : FnR P w K mg base CX0 k (He.ma K (SC0 K) m) sp
  mt : Meth K (SC0 K) m (He.ma K (SC0 K) m)
theorem Wd.dm (W : Wd K mg base) (i j : Nat) {st : Stmt} (hi : fn[i]? = some ⟨("Store", some m), m, qual, defArgs st, defBody st, defScope st, [], []⟩) (hj : fa[j]? = some (.meth "Store" m))
    (hb : ∀ (kV doc pm : Value) (an : Option Addr) (cdv ct : Value) (us : List Value), us.length = ps.length → bindArgs (PySem.W.fnOf m qual (defArgs st) (defBody st) (defScope st) .none kV doc pm an cdv ct) ⟨us, []⟩ = pure (ps.zip us))
    (h : ∀ f fd, FunAt K m qual st f fd → FnOk P w K mg base CX0 k f fd ps sp) : DnM P w K mg base k m sp := by
  obtain ⟨fd, F⟩ := W.says.def_ i hi
  have F' : FunAt K m qual st (He.ma K (SC0 K) m) fd := F
  exact ⟨FnR.of (h _ _ F') (F'.bindsN hb), He.meth_ok (W.says.fact j hj)⟩
end
section
variable {X : Cx} {k : Nat} {sp : Sp} {m : Str} {o e : Expr} {es : List Expr} {ta : TE} {t : TA} {apos pos : Pos} {pl : Sem Bool}
theorem pe_mt (D : DnM X.prog X.w X.K X.mg X.base k m sp) (c : SlX.SCls X.K (SC0 X.K)) (hr : Room k X.A) (he : PE X o ta) (ha : PA X (e :: es) t)
    (hst : starEach (e :: es) X.env = (false, eval e X.env) :: starEach es X.env := by rfl) (hpl : (backTo pos (starEach es X.env)).any (·.1) = false := by rfl)
    (ht : eval (.Call (.Attribute o m apos) (e :: es) [] pos) X.env = (do
      let ov ← eval o X.env
      standAt apos.atName
      let (f, first) ← holding [ov] (getMethod ov m pl)
      callWith pos f first (backTo pos (starEach (e :: es) X.env)) (backToKw pos (keywordEach [] X.env))) := by rfl) :
    PE X (.Call (.Attribute o m apos) (e :: es) [] pos) (SlX.tMethSl (SC0 X.K) sp E0 ta t) := SlX.pe_methSl he c D.mt D.fn hr pass0 ha hst hpl ht
theorem pe_mt0 (D : DnM X.prog X.w X.K X.mg X.base k m sp) (c : SlX.SCls X.K (SC0 X.K)) (hr : Room k X.A) (he : PE X o ta)
    (ht : eval (.Call (.Attribute o m apos) [] [] pos) X.env = (do
      let ov ← eval o X.env
      standAt apos.atName
      let (f, first) ← holding [ov] (getMethod ov m pl)
      callWith pos f first (backTo pos (starEach [] X.env)) (backToKw pos (keywordEach [] X.env))) := by rfl) :
    PE X (.Call (.Attribute o m apos) [] [] pos) (SlX.tMethSl (SC0 X.K) sp E0 ta tNil) := SlX.pe_methSl0 he c D.mt D.fn hr pass0 ht
end
/-! a local name that holds one of some defs -/
def tLocG (i : Nat) (A : Addr → Prop) (sp : Sp) (t : TA) : TE := fun σ H Q => ∃ f, σ[i]? = some (some (.ref f)) ∧ A f ∧ t σ H fun vs H1 => sp vs H1 Q E0
section
variable {X : Cx} {k i : Nat} {sp : Sp} {x : Str} {p pos : Pos} {e : Expr} {es : List Expr} {t : TA}
theorem pe_locG {A : Addr → Prop} (hA : ∀ f, A f → FnRG X.prog X.w X.K X.mg X.base k f sp ∧ PySem.W.keepIn X.K (.ref f) = true) (hgd : X.A.guards = some []) (hr : Room k X.A) (hN : X.N[i]? = some x) (hv : Vis X.env.scope x) (ha : PA X (e :: es) t)
    (hdb : (x == ("__debug__" : Str)) = false := by decide) (hcd : (x == ("__classdict__" : Str)) = false := by decide)
    (he : starEach (e :: es) X.env = (false, eval e X.env) :: starEach es X.env := by rfl) (hpl : (backTo pos (starEach es X.env)).any (·.1) = false := by rfl) : PE X (.Call (.Name x p) (e :: es) [] pos) (tLocG i A sp t) := by
  refine ⟨fun pins s σ H Q I h => ?_⟩
  obtain ⟨f, hs, hf, ht⟩ := h
  obtain ⟨F, hk⟩ := hA f hf
  refine wpAny_Call_Name_kw (thn ((pe_var (pos := p) hN hv hdb hcd).run pins s σ H (fun v H1 => v = .ref f ∧ H1 = H) I ⟨.ref f, hs, rfl, rfl⟩) fun u s1 ⟨v, H1, I1, r1, q1⟩ => ?_)
  obtain ⟨rfl, rfl⟩ := q1
  cases r1
  refine PySem.W.callWith_K (h₀ := X.base) I.ok.mod.kin hk (thn (ha.run pos pins s1 σ _ _ I1 ht) fun us s2 ⟨vs, H2, I2, r, q⟩ => ⟨I2.kIn, ?_⟩) he hpl
  refine wpAny_call (codeAny_mono (run_fnRG F hgd hr I2 r q) fun r s' hq => ?_)
  cases r with
  | error e => exact hq
  | ok fl =>
    cases fl with
    | ret u => exact hq
    | next => exact hq.elim
    | brk => exact hq.elim
    | cont => exact hq.elim
end
theorem DnG.at {P : Program} {w : World} {K : PySem.W.Frag} {mg : Str → Option Value} {base : Heap} {j k : Nat} {x : Str} {sp : Sp} {a : Addr} (D : DnG P w K mg base j x sp) (h : mg x = some (.ref a)) (hj : j ≤ k) : FnRG P w K mg base k a sp ∧ PySem.W.keepIn K (.ref a) = true := by
  obtain ⟨f, F, h1, h2⟩ := D.ex
  rw [h1] at h
  cases h
  exact ⟨fun A outer s H us vs Q E hg hr e0 r hs => F A outer s H us vs Q E hg (hr.mono hj) e0 r hs, h2⟩
/-! tuples whose object is known: nothing hangs on it -/
def rTupF (K : PySem.W.Frag) : List V → Hp → VK → Prop := fun xs H Q => ∃ p ys, xs = [.ref p] ∧ SqL K H p ys ∧ ∀ l (o : Obj), H l = none → o.dict = none → Q (.ref l) (upd H l (.frz o (.tup ys)))
def rCatF (K : PySem.W.Frag) : R2 := fun x y H Q => ∃ a b xs ys, x = .ref a ∧ y = .ref b ∧ SqT K H a xs ∧ SqT K H b ys ∧ xs.length + ys.length ≤ sizeLine ∧
  (xs = [] → Q (.ref b) H) ∧ (xs ≠ [] → ys = [] → Q (.ref a) H) ∧ (xs ≠ [] → ys ≠ [] → ∀ p (o : Obj), H p = none → o.dict = none → Q (.ref p) (upd H p (.frz o (.tup (xs ++ ys)))))
def tBMT (K : PySem.W.Frag) (r : V → List V → Hp → VK → Prop) (to : TE) (t : TA) : TE := fun σ H Q => to σ H fun x H1 => (∃ p o xs, x = .ref p ∧ H1 p = some (.frz o (.tup xs)) ∧ o.dict = none) ∧ t σ H1 fun xs H2 => r x xs H2 Q
section
variable {X : Cx} {K : PySem.W.Frag}
theorem call_tupleF (hK : X.K = K := by rfl) : CallR X (.type "tuple") (rTupF K) := by
  subst hK
  intro pins s σ H xs us Q I r h
  obtain ⟨p, ys, rfl, hq, q⟩ := h
  obtain ⟨u, rfl, rx⟩ := vals1 r
  cases rx
  obtain ⟨its, r', pl, hz⟩ := I.list hq
  have hlen := r'.length
  refine call_tuple_list pl.isList (fun h' kp => ?_) (by simp only [List.size_toArray] <;> omega)
  have I1 : Inv X pins σ H { s with heap := h' } := I.kept (t' := s.toks) kp
  have I2 : Inv X pins σ (upd H h'.objs.size (.frz { cls := .type "tuple", data := .seq its.toArray } (.tup ys))) { s with heap := h'.push { cls := .type "tuple", data := .seq its.toArray } } :=
    I1.laid (t' := s.toks) (fun b o e => Heap.get?_push_of_some _ e) (Nat.le_refl _) (show ObjOk X.prog X.w _ _ _ (.frz _ (.tup ys)) from ⟨Heap.get?_push_size _ rfl, hz, its, r', IsTup.new _ _⟩)
  exact ⟨.ref h'.objs.size, _, I2, rfl, q _ _ (I1.hok.fresh (Nat.le_refl _)) rfl⟩
theorem op_catF (hK : X.K = K := by rfl) : OpR X (binaryOp .Add) (rCatF K) := by
  subst hK
  intro pins s σ H x y v u Q I rx ry h
  obtain ⟨a, b, xs, ys, rfl, rfl, ha, hb, hz, q0, q1, q2⟩ := h
  by_cases hx : xs = []
  · subst hx
    exact op_catA pins s σ H _ _ v u Q I rx ry ⟨a, b, [], ys, rfl, rfl, ha, hb, hz, q0, fun z => absurd rfl z, fun z => absurd rfl z⟩
  · cases rx
    cases ry
    obtain ⟨its, r1, p1, _⟩ := I.tuple ha
    obtain ⟨its2, r2, p2, _⟩ := I.tuple hb
    refine HT.cat_tup p1 p2 (fun z => hx (r1.nil_iff.mp z)) (fun z => ⟨.ref a, H, I, rfl, q1 hx (r2.nil_iff.mp z)⟩) (fun z => ?_) (by rw [← r1.length, ← r2.length]; exact hz)
    refine ⟨.ref s.heap.objs.size, _, I.laid (t' := s.toks) (o := .frz _ (.tup (xs ++ ys))) (fun b ob q => Heap.get?_push_of_some _ q) (Nat.le_refl _) ⟨Heap.get?_push_size _ rfl, by rw [List.length_append]; exact hz, _, r1.append r2, IsTup.new _ _⟩, rfl, q2 hx (fun w => z (r2.nil_iff.mpr w)) _ _ (I.hok.fresh (Nat.le_refl _)) rfl⟩
theorem pe_bmT {o e : Expr} {es : List Expr} {to : TE} {t : TA} {name : Str} {apos cpos : Pos} {id : String} {r : V → List V → Hp → VK → Prop} (pa : PlainAttrs "tuple") (slot : Slot "tuple" name id) (hty : typeOf (.builtin id) = pure (.type "method_descriptor")) (hm : MtR X id r) (ho : PE X o to) (ha : PA X (e :: es) t)
    (hK : X.K = K := by rfl) (hbase : attributeBase o name X.env (eval o X.env) = eval o X.env := by rfl)
    (hfew : ((backTo cpos (starEach (e :: es) X.env)).all (fun x => !x.1) && (backToKw cpos (keywordEach [] X.env)).all (fun x => x.1.isSome)
      && decide ((e :: es).length + ([] : List Keyword).length + (if ([] : List Keyword).isEmpty then 0 else 1) < 30)) = true := by rfl)
    (hline : (apos.endLine == cpos.line) = true := by rfl) (hs : starEach (e :: es) X.env = (false, eval e X.env) :: starEach es X.env := by rfl) (hplain : (backTo cpos (starEach es X.env)).any (·.1) = false := by rfl) :
    PE X (.Call (.Attribute o name apos) (e :: es) [] cpos) (tBMT K r to t) := by
  subst hK
  refine ⟨fun pins s σ H Q I h => ?_⟩
  refine wpAny_Call_method_late hbase hfew hline rfl (thn (ho.run pins s σ H _ I h) fun v s1 ⟨x, H1, I1, r1, ⟨p, ob, xs, ex, hp, hd⟩, q1⟩ => ?_)
  subst ex
  cases r1
  obtain ⟨hob, hzz, its, rv, ob2, ho2, hc2, _⟩ := I1.hok p _ hp
  rw [hob] at ho2
  cases ho2
  refine ⟨"tuple", id, pa, slot, hty, ⟨ob, hob, hc2⟩, fun a ea => by cases ea; exact ⟨ob, hob, hd⟩, ?_⟩
  have hA := ha.run cpos pins s1 σ H1 _ I1 q1
  rw [hs] at hA ⊢
  refine Calls.callWith_builtin (by show (false || (backTo cpos (starEach es X.env)).any (·.1)) = false; rw [hplain] <;> rfl) (Calls.evalArgs_plain ?_)
  exact thn hA fun us s2 ⟨vs, H2, I2, r2, q2⟩ => hm pins s2 σ H2 (.ref p) vs (.ref p) us Q I2 rfl r2 q2
end
end Wm
set_option Elab.async false
set_option linter.all false
set_option maxRecDepth 100000
set_option maxHeartbeats 4000000
/-! promises -/
namespace Wm
open PySem PySem.Spec PyProof.Rows L2
abbrev sp1 (f : V → Hp → VK → Prop) : Sp := fun vs H Q _ => ∃ a, vs = [a] ∧ f a H Q
abbrev sp2 (f : V → V → Hp → VK → Prop) : Sp := fun vs H Q _ => ∃ a b, vs = [a, b] ∧ f a b H Q
abbrev sp3 (f : V → V → V → Hp → VK → Prop) : Sp := fun vs H Q _ => ∃ a b c, vs = [a, b, c] ∧ f a b c H Q
abbrev sp4 (f : V → V → V → V → Hp → VK → Prop) : Sp := fun vs H Q _ => ∃ a b c d, vs = [a, b, c, d] ∧ f a b c d H Q
abbrev sp5 (f : V → V → V → V → V → Hp → VK → Prop) : Sp := fun vs H Q _ => ∃ a b c d e, vs = [a, b, c, d, e] ∧ f a b c d e H Q
abbrev nt (n : Nat) : V := .int (n : Int)
/-- draws -/
def pTake (x y : V) (H : Hp) (Q : VK) : Prop := ∃ b m, x = .ref b ∧ y = nt m ∧ Bag H b ∧ 0 < m ∧ m < 2 ^ 30 ∧ ∀ H' r, Same H H' → r < m → Q (nt r) H'
def pSome (K : PySem.W.Frag) (x y : V) (H : Hp) (Q : VK) : Prop := ∃ b a xs, x = .ref b ∧ y = .ref a ∧ Bag H b ∧ SqL K H a xs ∧ xs ≠ [] ∧ xs.length ≤ 1000 ∧ ∀ H' v, Same H H' → v ∈ xs → Q v H'
def pMixed (K : PySem.W.Frag) (x y : V) (H : Hp) (Q : VK) : Prop := ∃ b a xs, x = .ref b ∧ y = .ref a ∧ Bag H b ∧ SqL K H a xs ∧ xs.length ≤ 1000 ∧ ∀ H' p ys, Same H H' → H p = none → H' p = some (.lst ys) → ys.Perm xs → Q (.ref p) H'
/-! ### layouts, needs -/
abbrev Lay := List (Option Nat)
def it : Option Nat → V
  | none => .non
  | some n => nt n
def Nd (K : PySem.W.Frag) (H : Hp) (x : V) (ns : List Nat) : Prop := ∃ c, x = .ref c ∧ SqT K H c (ns.map nt)
def LyT (K : PySem.W.Frag) (H : Hp) (x : V) (L : Lay) : Prop := ∃ c, x = .ref c ∧ SqT K H c (L.map it)
def LyL (K : PySem.W.Frag) (H : Hp) (x : V) (L : Lay) : Prop := ∃ c, x = .ref c ∧ SqL K H c (L.map it)
def LyA (K : PySem.W.Frag) (H : Hp) (x : V) (L : Lay) : Prop := ∃ c, x = .ref c ∧ (SqL K H c (L.map it) ∨ SqT K H c (L.map it))
theorem it_some {x : Option Nat} {v : Nat} : it x = nt v ↔ x = some v := by
  cases x with
  | none => simp [it]
  | some w =>
    show nt w = nt v ↔ _
    constructor
    · intro h; injection h with h; have : w = v := by omega
      rw [this]
    · intro h; injection h with h; rw [h]
theorem it_none {x : Option Nat} : it x = .non ↔ x = none := by
  cases x with
  | none => simp [it]
  | some w => simp [it]
theorem it_inj {x y : Option Nat} : it x = it y ↔ x = y := by
  cases y with
  | none => exact it_none
  | some w => exact it_some
theorem it_flat (x : Option Nat) : flatV (it x) = true := by cases x <;> rfl
theorem it_scal (x y : Option Nat) : scal (it x) (it y) = true := by cases x <;> cases y <;> rfl
theorem nt_inj {a b : Nat} : nt a = nt b ↔ a = b := by
  constructor
  · intro h; injection h with h; omega
  · intro h; rw [h]
theorem flt_cnt (L : List (Option Nat)) (v : Nat) : (L.filter fun x => decide (it x = nt v)).length = L.count (some v) := by
  rw [List.count_eq_countP, List.countP_eq_length_filter]
  congr 2
  funext x
  rw [Bool.eq_iff_iff]
  simp [it_some]
section
variable {K : PySem.W.Frag} {H H' : Hp} {x : V} {ns : List Nat} {L : Lay}
theorem Nd.mono (e : Same H H') (h : Nd K H x ns) : Nd K H' x ns := let ⟨c, h1, h2⟩ := h; ⟨c, h1, same_t e h2⟩
theorem LyT.mono (e : Same H H') (h : LyT K H x L) : LyT K H' x L := let ⟨c, h1, h2⟩ := h; ⟨c, h1, same_t e h2⟩
theorem LyL.mono (e : Same H H') (h : LyL K H x L) : LyL K H' x L := let ⟨c, h1, h2⟩ := h; ⟨c, h1, e.seq h2⟩
theorem LyA.mono (e : Same H H') (h : LyA K H x L) : LyA K H' x L := let ⟨c, h1, h2⟩ := h; ⟨c, h1, h2.elim (fun q => .inl (e.seq q)) fun q => .inr (same_t e q)⟩
theorem LyT.a (h : LyT K H x L) : LyA K H x L := let ⟨c, h1, h2⟩ := h; ⟨c, h1, .inr h2⟩
theorem LyL.a (h : LyL K H x L) : LyA K H x L := let ⟨c, h1, h2⟩ := h; ⟨c, h1, .inl h2⟩
end
def LyF (K : PySem.W.Frag) (H : Hp) (x : V) (L : Lay) : Prop := ∃ (c : Addr) (o : Obj), x = .ref c ∧ H c = some (.frz o (.tup (L.map it))) ∧ o.dict = none
section
variable {K : PySem.W.Frag} {H H' : Hp} {x : V} {L : Lay}
theorem LyF.mono (e : Same H H') (h : LyF K H x L) : LyF K H' x L := let ⟨c, o, h1, h2, h3⟩ := h; ⟨c, o, h1, e _ _ h2, h3⟩
theorem LyF.t (h : LyF K H x L) : LyT K H x L := let ⟨c, o, h1, h2, h3⟩ := h; ⟨c, h1, .inl (.inr ⟨o, h2⟩)⟩
end
abbrev cn (L : Lay) (v : Nat) : Nat := L.count (some v)
abbrev rms (ns : List Nat) (L : Lay) : List Int := (List.range ns.length).map fun v => ((cn L v : Nat) : Int) - ((ns.getD v 0 : Nat) : Int)
def pStand (K : PySem.W.Frag) (x y : V) (H : Hp) (Q : VK) : Prop := ∃ ns L, Nd K H x ns ∧ LyA K H y L ∧ ns.length ≤ 1000 ∧ L.length ≤ 1000 ∧ ∀ H' p, Same H H' → H p = none → H' p = some (.lst ((List.range ns.length).map fun v => nt (cn L v))) → Q (.ref p) H'
def pRooms (K : PySem.W.Frag) (x y : V) (H : Hp) (Q : VK) : Prop := ∃ ns L, Nd K H x ns ∧ LyA K H y L ∧ ns.length ≤ 1000 ∧ L.length ≤ 1000 ∧ ∀ H' p, Same H H' → H p = none → H' p = some (.lst ((rms ns L).map V.int)) → Q (.ref p) H'
def okO (n : Nat) : Option Nat → Bool
  | none => true
  | some v => decide (v < n)
/-- the values are of the needs, and each stands often enough -/
def rightB (ns : List Nat) (L : Lay) : Bool := (L.filter fun o => !okO ns.length o).isEmpty && ((rms ns L).filter fun z => decide (z < 0)).isEmpty
def pIsRight (K : PySem.W.Frag) (x y : V) (H : Hp) (Q : VK) : Prop := ∃ ns L, Nd K H x ns ∧ LyL K H y L ∧ ns.length ≤ 1000 ∧ L.length ≤ 1000 ∧ ∀ H', Same H H' → Q (.bl (rightB ns L)) H'
/-! ### cuts -/
theorem seq_cut {t u : TS} {D : Ends} {σ : L2.St} {H : Hp} (P : L2.St → Hp → Prop) (ht : ∀ nx, (∀ σ' H', P σ' H' → nx σ' H') → t { D with nx := nx } σ H) (hu : ∀ σ' H', P σ' H' → u D σ' H') : tSeq t u D σ H := ht _ hu
theorem te_cut {t : TE} {σ : L2.St} {H : Hp} {Q : VK} (P : V → Hp → Prop) (ht : ∀ Q' : VK, (∀ v H', P v H' → Q' v H') → t σ H Q') (hQ : ∀ v H', P v H' → Q v H') : t σ H Q := ht _ hQ
theorem andV_cut {a b : TE} {σ : L2.St} {H : Hp} {Q : VK} (P : V → Hp → Prop) (ht : ∀ Q' : VK, (∀ v H', P v H' → Q' v H') → tAndV a b σ H Q') (hQ : ∀ v H', P v H' → Q v H') : tAndV a b σ H Q := ht _ hQ
theorem ifE_cut {c : TT} {a b : TE} {σ : L2.St} {H : Hp} {Q : VK} (P : V → Hp → Prop) (ht : ∀ Q' : VK, (∀ v H', P v H' → Q' v H') → tIf c a b σ H Q') (hQ : ∀ v H', P v H' → Q v H') : tIf c a b σ H Q := ht _ hQ
theorem tst {c : Bool} {A B : Prop} (h1 : c = true → A) (h2 : c = false → B) : if c = true then A else B := by
  cases c with
  | true => exact h1 rfl
  | false => exact h2 rfl
theorem tst_t {c : Bool} {A B : Prop} (hc : c = true) (h : A) : if c = true then A else B := by rw [if_pos hc]; exact h
theorem tst_f {c : Bool} {A B : Prop} (hc : c = false) (h : B) : if c = true then A else B := by subst hc; exact iteF h
theorem set_st (σ : L2.St) (i : Nat) (v : V) (h : i < σ.length) : (σ.set i (some v))[i]? = some (some v) := by simp [h]
end Wm
set_option Elab.async false
set_option linter.all false
set_option maxRecDepth 100000
set_option maxHeartbeats 4000000
/-! comprehensions and loops over data -/
namespace Wm
open PySem PySem.Spec PyProof.Rows L2
def selF {α β : Type} (p : Nat → α → Bool) (v : Nat → α → β) : Nat → List α → List β
  | _, [] => []
  | k, a :: r => if p k a then v k a :: selF p v (k + 1) r else selF p v (k + 1) r
abbrev sel {α β : Type} (p : Nat → α → Bool) (v : Nat → α → β) (L : List α) : List β := selF p v 0 L
theorem selF_snoc {α β : Type} (p : Nat → α → Bool) (v : Nat → α → β) (a : α) : ∀ (l : List α) (k : Nat), selF p v k (l ++ [a]) = selF p v k l ++ (if p (k + l.length) a then [v (k + l.length) a] else [])
  | [], k => by simp [selF]
  | b :: l, k => by
    have ih := selF_snoc p v a l (k + 1)
    have e : k + 1 + l.length = k + (b :: l).length := by rw [List.length_cons]; omega
    rw [e] at ih
    rw [List.cons_append]
    show (if p k b then _ :: selF p v (k + 1) (l ++ [a]) else selF p v (k + 1) (l ++ [a])) = (if p k b then _ :: selF p v (k + 1) l else selF p v (k + 1) l) ++ _
    rw [ih]
    split <;> rfl
theorem selF_len {α β : Type} (p : Nat → α → Bool) (v : Nat → α → β) : ∀ (l : List α) (k : Nat), (selF p v k l).length ≤ l.length
  | [], _ => Nat.le_refl _
  | b :: l, k => by
    have ih := selF_len p v l (k + 1)
    show (if p k b then _ :: selF p v (k + 1) l else selF p v (k + 1) l).length ≤ _
    split
    · rw [List.length_cons, List.length_cons]; omega
    · rw [List.length_cons]; omega
theorem selF_const {α β : Type} (p : α → Bool) (v : α → β) : ∀ (l : List α) (k : Nat), selF (fun _ a => p a) (fun _ a => v a) k l = (l.filter p).map v
  | [], _ => rfl
  | b :: l, k => by
    show (if p b then _ :: selF _ _ (k + 1) l else selF _ _ (k + 1) l) = _
    rw [selF_const p v l (k + 1), List.filter_cons]
    split <;> rfl
theorem selF_map {α β γ : Type} (p : Nat → α → Bool) (v : Nat → α → β) (g : β → γ) : ∀ (l : List α) (k : Nat), selF p (fun i a => g (v i a)) k l = (selF p v k l).map g
  | [], _ => rfl
  | b :: l, k => by
    show (if p k b then _ :: selF _ _ (k + 1) l else selF _ _ (k + 1) l) = List.map g (if p k b then _ :: selF p v (k + 1) l else selF p v (k + 1) l)
    rw [selF_map p v g l (k + 1)]
    split <;> rfl
theorem mem_selF {α β : Type} (p : Nat → α → Bool) (v : Nat → α → β) (y : β) : ∀ (l : List α) (k : Nat), y ∈ selF p v k l ↔ ∃ i a, l[i]? = some a ∧ p (k + i) a = true ∧ y = v (k + i) a
  | [], k => by simp [selF]
  | b :: l, k => by
    have ih := mem_selF p v y l (k + 1)
    have step : (∃ i a, (b :: l)[i]? = some a ∧ p (k + i) a = true ∧ y = v (k + i) a) ↔ (p k b = true ∧ y = v k b) ∨ ∃ i a, l[i]? = some a ∧ p (k + 1 + i) a = true ∧ y = v (k + 1 + i) a := by
      constructor
      · rintro ⟨i, a, h1, h2, h3⟩
        cases i with
        | zero => simp at h1; subst h1; exact .inl ⟨h2, h3⟩
        | succ i => simp at h1; exact .inr ⟨i, a, h1, by rw [show k + 1 + i = k + (i + 1) by omega]; exact h2, by rw [show k + 1 + i = k + (i + 1) by omega]; exact h3⟩
      · rintro (⟨h1, h2⟩ | ⟨i, a, h1, h2, h3⟩)
        · exact ⟨0, b, rfl, h1, h2⟩
        · exact ⟨i + 1, a, by simpa using h1, by rw [show k + (i + 1) = k + 1 + i by omega]; exact h2, by rw [show k + (i + 1) = k + 1 + i by omega]; exact h3⟩
    rw [step, ← ih]
    show y ∈ (if p k b then _ :: selF p v (k + 1) l else selF p v (k + 1) l) ↔ _
    by_cases hp : p k b = true
    · rw [if_pos hp, List.mem_cons]
      constructor
      · rintro (h | h)
        · exact .inl ⟨hp, h⟩
        · exact .inr h
      · rintro (⟨_, h⟩ | h)
        · exact .inl h
        · exact .inr h
    · rw [if_neg hp]
      constructor
      · exact .inr
      · rintro (⟨h, _⟩ | h)
        · exact absurd h hp
        · exact h
/-- the places -/
abbrev pos {α : Type} (p : Nat → α → Bool) (L : List α) : List Nat := sel p (fun i _ => i) L
theorem mem_pos {α : Type} {p : Nat → α → Bool} {L : List α} {i : Nat} : i ∈ pos p L ↔ ∃ a, L[i]? = some a ∧ p i a = true := by
  rw [mem_selF]
  constructor
  · rintro ⟨j, a, h1, h2, h3⟩
    have : i = j := by omega
    subst this
    exact ⟨a, h1, by simpa using h2⟩
  · rintro ⟨a, h1, h2⟩
    exact ⟨i, a, h1, by simpa using h2, by omega⟩
section
variable {α : Type} {J : It} {n : Nat} {G : Hp → Prop} {Y : Nat → Hp → V → Hp → Prop} {H1 : Hp}
theorem lc_sel (w : Walk J n G Y) {g : TG} {tt : TT} {te : TE} {vs : List Nat} {σ : L2.St} {Q : VK} (L : List α) (hL : L.length = n) (p : Nat → α → Bool) (v : Nat → α → V)
    (hG : ∀ H', Same H1 H' → G H') (hn : n ≤ 100000)
    (hs : ∀ i a x H' H'', L[i]? = some a → Same H1 H' → Y i H' x H'' → ∀ (Z : VK) (N : Hp → Prop), (∀ H4, p i a = true → Same H' H4 → Z (v i a) H4) → (∀ H4, p i a = false → Same H' H4 → N H4) →
      g x (wipe σ vs) H'' fun σ2 H2 => wipe σ2 vs = wipe σ vs ∧ tt σ2 H2 fun b H3 => if b = true then te σ2 H3 Z else N H3)
    (hd : ∀ D H', H1 D = none → Same H1 H' → H' D = some (.lst (sel p v L)) → Q (.ref D) H') :
    ∀ D, H1 D = none → ∃ W : Nat → Nat → Hp → Prop, (∃ m, W 0 m (upd H1 D (.lst []))) ∧ ∀ i m H, W i m H →
      (J.stop i H ∧ Q (.ref D) H) ∨ (J.go i H ∧ ∃ Nx : Hp → Prop, (∀ H', Nx H' → ∃ m', m' < m ∧ W (i + 1) m' H') ∧ ∀ x H', J.yld i H x H' → g x (wipe σ vs) H' fun σ2 H2 => wipe σ2 vs = wipe σ vs ∧ tt σ2 H2 fun b H3 =>
        if b = true then te σ2 H3 fun y H4 => ∃ acc, H4 D = some (.lst acc) ∧ acc.length < sizeLine ∧ Nx (upd H4 D (.lst (acc ++ [y]))) else Nx H3) := by
  intro D hD
  refine lc_it w (fun i H' => Same H1 H' ∧ H' D = some (.lst (sel p v (L.take i)))) ⟨Same.new hD, upd_same⟩ (fun i H' hi q => hG H' q.1) (fun i x H' H'' hi q y => ?_) fun H' q => ?_
  · obtain ⟨e, hy⟩ := q
    have hi' : i < L.length := by omega
    have ha : L[i]? = some L[i] := List.getElem?_eq_getElem hi'
    have et : L.take (i + 1) = L.take i ++ [L[i]] := by rw [List.take_add_one, ha]; rfl
    have el : (L.take i).length = i := by rw [List.length_take]; omega
    refine hs i L[i] x H' H'' ha e y _ _ (fun H4 hp e4 => ⟨_, e4 _ _ hy, ?_, Same.mut (e.trans e4) hD, ?_⟩) fun H4 hp e4 => ⟨e.trans e4, ?_⟩
    · have h9 := selF_len p v (L.take i) 0
      have : sizeLine = 16777216 := rfl
      show (selF p v 0 (L.take i)).length < _
      omega
    · have h9 := selF_snoc p v L[i] (L.take i) 0
      rw [el, Nat.zero_add, if_pos hp] at h9
      show _ = some (HO.lst (selF p v 0 _))
      rw [upd_same, et, h9]
    · have h9 := selF_snoc p v L[i] (L.take i) 0
      rw [el, Nat.zero_add, if_neg (by rw [hp]; decide), List.append_nil] at h9
      show _ = some (HO.lst (selF p v 0 _))
      rw [e4 _ _ hy, et, h9]
  · obtain ⟨e, hy⟩ := q
    rw [show L.take n = L by rw [← hL, List.take_length]] at hy
    exact hd D H' hD e hy
end
section
variable {K : PySem.W.Frag} {α : Type} {H1 : Hp} {g : TG} {tt : TT} {te : TE} {vs : List Nat} {σ : L2.St} {Q : VK} {a b : Addr}
/-- the goal of a comprehension -/
def LcG (J : It) (g : TG) (tt : TT) (te : TE) (vs : List Nat) (σ : L2.St) (H1 : Hp) (Q : VK) : Prop :=
    ∀ D, H1 D = none → ∃ W : Nat → Nat → Hp → Prop, (∃ m, W 0 m (upd H1 D (.lst []))) ∧ ∀ i m H, W i m H →
      (J.stop i H ∧ Q (.ref D) H) ∨ (J.go i H ∧ ∃ Nx : Hp → Prop, (∀ H', Nx H' → ∃ m', m' < m ∧ W (i + 1) m' H') ∧ ∀ x H', J.yld i H x H' → g x (wipe σ vs) H' fun σ2 H2 => wipe σ2 vs = wipe σ vs ∧ tt σ2 H2 fun b H3 =>
        if b = true then te σ2 H3 fun y H4 => ∃ acc, H4 D = some (.lst acc) ∧ acc.length < sizeLine ∧ Nx (upd H4 D (.lst (acc ++ [y]))) else Nx H3)
theorem lcI {wi : TI} {H : Hp} (h : wi σ H fun J H1 => LcG J g tt te vs σ H1 Q) : tLc wi g tt te vs σ H Q := h
theorem cb1 {r : List V → Hp → VK → Prop} {t : TE} {H : Hp} (h : t σ H fun x H1 => r [x] H1 Q) : tCB r (tCons t tNil) σ H Q := h
theorem cl1 {sp : Sp} {t : TE} {H : Hp} (h : t σ H fun x H1 => sp [x] H1 Q E0) : tCall sp [] E0 (tCons t tNil) σ H Q := h
theorem opI {r : R2} {ta tb : TE} {H : Hp} (h : ta σ H fun x H1 => tb σ H1 fun y H2 => r x y H2 Q) : tOp r ta tb σ H Q := h
theorem ttI {t : TE} {H : Hp} {Q : Bool → Hp → Prop} (h : t σ H fun x H' => ∃ k, x = .bl k ∧ Q k H') : tTest t σ H Q := h
theorem tbI {t : TE} {H : Hp} {Q : Bool → Hp → Prop} (h : t σ H fun x H' => ∃ k, x = .bl k ∧ Q k H') : tB t σ H Q := h
theorem rtI {t : TE} {H : Hp} {D : Ends} (h : t σ H D.rt) : tRet t D σ H := h
theorem asI {t : TE} {H : Hp} {D : Ends} {g : TG} (h : t σ H fun x H1 => g x σ H1 D.nx) : tAsg t g D σ H := h
theorem ifI {t : TT} {u1 u2 : TS} {H : Hp} {D : Ends} (h : t σ H fun b H1 => if b = true then u1 D σ H1 else u2 D σ H1) : tIfS t u1 u2 D σ H := h
theorem nxI {H : Hp} {D : Ends} (h : D.nx σ H) : tNext D σ H := h
theorem sqI {u1 u2 : TS} {H : Hp} {D : Ends} (h : u1 { D with nx := u2 D } σ H) : tSeq u1 u2 D σ H := h
theorem cn1 {t : TE} {H : Hp} {Q : List V → Hp → Prop} (h : t σ H fun x H1 => Q [x] H1) : tCons t tNil σ H Q := h
def ForR (m : Nat) (g : TG) (tb : TS) (D : Ends) (σ : L2.St) (H1 : Hp) : Prop := ∃ W : Nat → Nat → L2.St → Hp → Prop, (∃ m, W 0 m σ H1) ∧ ∀ i k σ H, W i k σ H →
      ((Itr 0 m).stop i H ∧ D.nx σ H) ∨ ((Itr 0 m).go i H ∧ ∃ N : L2.St → Hp → Prop, (∀ σ' H', N σ' H' → ∃ m', m' < k ∧ W (i + 1) m' σ' H') ∧ ∀ x H', (Itr 0 m).yld i H x H' → g x σ H' fun σ2 H2 => tb { D with nx := N, ct := N, bk := D.nx } σ2 H2)
abbrev ForX (x : V) (g : TG) (tb : TS) (D : Ends) (σ : L2.St) (H1 : Hp) : Prop := ∃ j : Int, [x] = [.int j] ∧ -(2 ^ 62) ≤ j ∧ j < 2 ^ 62 ∧ ForR j.toNat g tb D σ H1
theorem frI {te : TE} {tb : TS} {D : Ends} {H : Hp} (h : te σ H fun x H1 => ForX x g tb D σ H1) : tFor (iRng1 (tCons te tNil)) g tb D σ H := h
theorem frN {m : Nat} {tb : TS} {D : Ends} {H : Hp} (hm : m ≤ 1000000) (h : ForR m g tb D σ H) : ForX (nt m) g tb D σ H := ⟨(m : Int), rfl, by omega, by omega, by rw [Int.toNat_natCast]; exact h⟩
theorem forRng {m : Nat} {tb : TS} {D : Ends} {H : Hp} (Pv : Nat → L2.St → Hp → Prop) (h0 : Pv 0 σ H)
    (hs : ∀ i σ H, i < m → Pv i σ H → g (nt i) σ H fun σ2 H2 => tb { D with nx := Pv (i + 1), ct := Pv (i + 1), bk := D.nx } σ2 H2) (hd : ∀ σ H, Pv m σ H → D.nx σ H) : ForR m g tb D σ H :=
  for_range (lo := 0) (n := m) Pv h0 (fun i σ H hi p => by rw [show (0 : Int) + (i : Int) = (i : Int) by omega]; exact hs i σ H hi p) hd
/-- one turn -/
def Trn (g : TG) (tt : TT) (te : TE) (vs : List Nat) (σ : L2.St) (x : V) (H' H'' : Hp) (p : Bool) (v : V) : Prop :=
  ∀ (Z : VK) (N : Hp → Prop), (∀ H4, p = true → Same H' H4 → Z v H4) → (∀ H4, p = false → Same H' H4 → N H4) → g x (wipe σ vs) H'' fun σ2 H2 => wipe σ2 vs = wipe σ vs ∧ tt σ2 H2 fun b H3 => if b = true then te σ2 H3 Z else N H3
theorem lcL (L : List α) (enc : α → V) (p : α → Bool) (v : α → V) (hS : SqL K H1 a (L.map enc)) (hn : L.length ≤ 100000)
    (hs : ∀ x H', x ∈ L → Same H1 H' → Trn g tt te vs σ (enc x) H' H' (p x) (v x)) (hd : ∀ D H', H1 D = none → Same H1 H' → H' D = some (.lst ((L.filter p).map v)) → Q (.ref D) H') : LcG (Itl K a) g tt te vs σ H1 Q := by
  refine lc_sel (walk_list (xs := L.map enc)) L (by simp) (fun _ => p) (fun _ => v) (fun H' e => e.seq hS) (by simpa using hn) (fun i x y H' H'' hx e hy Z N hz hN => ?_) fun D H' hD e h => hd D H' hD e (by rw [← selF_const]; exact h)
  obtain ⟨rfl, h2⟩ := hy
  rw [List.getElem?_map, hx] at h2
  cases h2
  exact hs x _ (List.mem_of_getElem? hx) e Z N hz hN
theorem lcT (L : List α) (enc : α → V) (p : α → Bool) (v : α → V) (hS : SqT K H1 a (L.map enc)) (hn : L.length ≤ 100000)
    (hs : ∀ x H', x ∈ L → Same H1 H' → Trn g tt te vs σ (enc x) H' H' (p x) (v x)) (hd : ∀ D H', H1 D = none → Same H1 H' → H' D = some (.lst ((L.filter p).map v)) → Q (.ref D) H') : LcG (Itt K a) g tt te vs σ H1 Q := by
  refine lc_sel (walk_tup (xs := L.map enc)) L (by simp) (fun _ => p) (fun _ => v) (fun H' e => same_t e hS) (by simpa using hn) (fun i x y H' H'' hx e hy Z N hz hN => ?_) fun D H' hD e h => hd D H' hD e (by rw [← selF_const]; exact h)
  obtain ⟨rfl, h2⟩ := hy
  rw [List.getElem?_map, hx] at h2
  cases h2
  exact hs x _ (List.mem_of_getElem? hx) e Z N hz hN
theorem lcR (n : Nat) (p : Nat → Bool) (v : Nat → V) (hn : n ≤ 100000)
    (hs : ∀ i H', i < n → Same H1 H' → Trn g tt te vs σ (nt i) H' H' (p i) (v i)) (hd : ∀ D H', H1 D = none → Same H1 H' → H' D = some (.lst (((List.range n).filter p).map v)) → Q (.ref D) H') : LcG (Itr 0 n) g tt te vs σ H1 Q := by
  refine lc_sel (walk_range (lo := 0) (n := n)) (List.range n) (by simp) (fun _ => p) (fun _ => v) (fun H' e => trivial) hn (fun i x y H' H'' hx e hy Z N hz hN => ?_) fun D H' hD e h => hd D H' hD e (by rw [← selF_const]; exact h)
  obtain ⟨rfl, h2⟩ := hy
  obtain ⟨h3, h4⟩ := List.getElem?_eq_some_iff.mp hx
  rw [List.getElem_range] at h4
  subst h4
  dsimp only at h2
  rw [show (0 : Int) + (i : Int) = (i : Int) by omega] at h2
  subst h2
  exact hs i _ (by simpa using h3) e Z N hz hN
/-- enumerate of a tuple, of a list -/
theorem lcE (L : List α) (enc : α → V) (p : Nat → α → Bool) (v : Nat → α → V) (hS : SqT K H1 a (L.map enc)) (hn : L.length ≤ 100000)
    (hs : ∀ i x T H', L[i]? = some x → Same H1 H' → H' T = none → Trn g tt te vs σ (.ref T) H' (upd H' T (.tup [nt i, enc x])) (p i x) (v i x)) (hd : ∀ D H', H1 D = none → Same H1 H' → H' D = some (.lst (sel p v L)) → Q (.ref D) H') : LcG (Itu K a) g tt te vs σ H1 Q := by
  refine lc_sel (walk_enumT (xs := L.map enc)) L (by simp) p v (fun H' e => same_t e hS) (by simpa using hn) (fun i x y H' H'' hx e hy Z N hz hN => ?_) hd
  obtain ⟨T, y1, y2, rfl, hT, rfl, h1, h2⟩ := hy
  dsimp only at h1 h2
  rw [List.getElem?_map, hx] at h2
  cases h1
  cases h2
  exact hs i x T _ hx e hT Z N hz hN
theorem lcEL (L : List α) (enc : α → V) (p : Nat → α → Bool) (v : Nat → α → V) (hS : SqL K H1 a (L.map enc)) (hn : L.length ≤ 100000)
    (hs : ∀ i x T H', L[i]? = some x → Same H1 H' → H' T = none → Trn g tt te vs σ (.ref T) H' (upd H' T (.tup [nt i, enc x])) (p i x) (v i x)) (hd : ∀ D H', H1 D = none → Same H1 H' → H' D = some (.lst (sel p v L)) → Q (.ref D) H') : LcG (Ite K a) g tt te vs σ H1 Q := by
  refine lc_sel (walk_enum (xs := L.map enc)) L (by simp) p v (fun H' e => e.seq hS) (by simpa using hn) (fun i x y H' H'' hx e hy Z N hz hN => ?_) hd
  obtain ⟨T, y1, y2, rfl, hT, rfl, h1, h2⟩ := hy
  dsimp only at h1 h2
  rw [List.getElem?_map, hx] at h2
  cases h1
  cases h2
  exact hs i x T _ hx e hT Z N hz hN
/-- zip of a list and a tuple of one length -/
theorem lcZ {β : Type} (L : List (α × β)) (enc : α → V) (enc2 : β → V) (p : α × β → Bool) (v : α × β → V) (hS : SqL K H1 a (L.map fun q => enc q.1)) (hT : SqT K H1 b (L.map fun q => enc2 q.2)) (hn : L.length ≤ 100000)
    (hs : ∀ x T H', x ∈ L → Same H1 H' → H' T = none → Trn g tt te vs σ (.ref T) H' (upd H' T (.tup [enc x.1, enc2 x.2])) (p x) (v x)) (hd : ∀ D H', H1 D = none → Same H1 H' → H' D = some (.lst ((L.filter p).map v)) → Q (.ref D) H') : LcG (ItzM K a b) g tt te vs σ H1 Q := by
  refine lc_sel (walk_zipM (xs := L.map fun q => enc q.1) (ys := L.map fun q => enc2 q.2) (by simp)) L (by simp) (fun _ => p) (fun _ => v) (fun H' e => ⟨e.seq hS, same_t e hT⟩) (by simpa using hn) (fun i x y H' H'' hx e hy Z N hz hN => ?_) fun D H' hD e h => hd D H' hD e (by rw [← selF_const]; exact h)
  obtain ⟨T, y1, y2, rfl, hT, rfl, h1, h2⟩ := hy
  dsimp only at h1 h2
  rw [List.getElem?_map, hx] at h1 h2
  cases h1
  cases h2
  exact hs x T _ (List.mem_of_getElem? hx) e hT Z N hz hN
theorem Trn.yes {x : V} {H' H'' : Hp} {v : V} (h : ∀ Z : VK, (∀ H4, Same H' H4 → Z v H4) → g x (wipe σ vs) H'' fun σ2 H2 => wipe σ2 vs = wipe σ vs ∧ te σ2 H2 Z) : Trn g tYes te vs σ x H' H'' true v := by
  intro Z N hz _
  have e : (fun (σ2 : L2.St) (H2 : Hp) => wipe σ2 vs = wipe σ vs ∧ tYes σ2 H2 fun b H3 => if b = true then te σ2 H3 Z else N H3) = fun σ2 H2 => wipe σ2 vs = wipe σ vs ∧ te σ2 H2 Z := by
    funext σ2 H2
    show (wipe σ2 vs = wipe σ vs ∧ if true = true then te σ2 H2 Z else N H2) = _
    rw [if_pos rfl]
  rw [e]
  exact h Z fun H4 => hz H4 rfl
theorem flt_t {β : Type} (L : List β) : L.filter (fun _ => true) = L := List.filter_eq_self.mpr fun _ _ => rfl
theorem selF_t {β : Type} (v : Nat → α → β) : ∀ (L : List α) (k : Nat), selF (fun _ _ => true) v k L = (L.zipIdx k).map fun q => v q.2 q.1
  | [], _ => rfl
  | b :: l, k => by
    show (if true = true then _ :: selF _ v (k + 1) l else _) = _
    rw [if_pos rfl, selF_t v l (k + 1)]
    rfl
/-- without a test -/
theorem mpL (L : List α) (enc : α → V) (v : α → V) (hS : SqL K H1 a (L.map enc)) (hn : L.length ≤ 100000)
    (hs : ∀ x H', x ∈ L → Same H1 H' → ∀ Z : VK, (∀ H4, Same H' H4 → Z (v x) H4) → g (enc x) (wipe σ vs) H' fun σ2 H2 => wipe σ2 vs = wipe σ vs ∧ te σ2 H2 Z) (hd : ∀ D H', H1 D = none → Same H1 H' → H' D = some (.lst (L.map v)) → Q (.ref D) H') : LcG (Itl K a) g tYes te vs σ H1 Q :=
  lcL L enc (fun _ => true) v hS hn (fun x H' hx e => Trn.yes (hs x H' hx e)) fun D H' hD e h => hd D H' hD e (by rw [flt_t] at h; exact h)
theorem mpT (L : List α) (enc : α → V) (v : α → V) (hS : SqT K H1 a (L.map enc)) (hn : L.length ≤ 100000)
    (hs : ∀ x H', x ∈ L → Same H1 H' → ∀ Z : VK, (∀ H4, Same H' H4 → Z (v x) H4) → g (enc x) (wipe σ vs) H' fun σ2 H2 => wipe σ2 vs = wipe σ vs ∧ te σ2 H2 Z) (hd : ∀ D H', H1 D = none → Same H1 H' → H' D = some (.lst (L.map v)) → Q (.ref D) H') : LcG (Itt K a) g tYes te vs σ H1 Q :=
  lcT L enc (fun _ => true) v hS hn (fun x H' hx e => Trn.yes (hs x H' hx e)) fun D H' hD e h => hd D H' hD e (by rw [flt_t] at h; exact h)
theorem mpR (n : Nat) (v : Nat → V) (hn : n ≤ 100000)
    (hs : ∀ i H', i < n → Same H1 H' → ∀ Z : VK, (∀ H4, Same H' H4 → Z (v i) H4) → g (nt i) (wipe σ vs) H' fun σ2 H2 => wipe σ2 vs = wipe σ vs ∧ te σ2 H2 Z) (hd : ∀ D H', H1 D = none → Same H1 H' → H' D = some (.lst ((List.range n).map v)) → Q (.ref D) H') : LcG (Itr 0 n) g tYes te vs σ H1 Q :=
  lcR n (fun _ => true) v hn (fun x H' hx e => Trn.yes (hs x H' hx e)) fun D H' hD e h => hd D H' hD e (by rw [flt_t] at h; exact h)
theorem mpE (L : List α) (enc : α → V) (v : Nat → α → V) (hS : SqT K H1 a (L.map enc)) (hn : L.length ≤ 100000)
    (hs : ∀ i x T H', L[i]? = some x → Same H1 H' → H' T = none → ∀ Z : VK, (∀ H4, Same H' H4 → Z (v i x) H4) → g (.ref T) (wipe σ vs) (upd H' T (.tup [nt i, enc x])) fun σ2 H2 => wipe σ2 vs = wipe σ vs ∧ te σ2 H2 Z)
    (hd : ∀ D H', H1 D = none → Same H1 H' → H' D = some (.lst (L.zipIdx.map fun q => v q.2 q.1)) → Q (.ref D) H') : LcG (Itu K a) g tYes te vs σ H1 Q :=
  lcE L enc (fun _ _ => true) v hS hn (fun i x T H' hx e hT => Trn.yes (hs i x T H' hx e hT)) fun D H' hD e h => hd D H' hD e (by rw [← selF_t]; exact h)
theorem mpZ {β : Type} (L : List (α × β)) (enc : α → V) (enc2 : β → V) (v : α × β → V) (hS : SqL K H1 a (L.map fun q => enc q.1)) (hT : SqT K H1 b (L.map fun q => enc2 q.2)) (hn : L.length ≤ 100000)
    (hs : ∀ x T H', x ∈ L → Same H1 H' → H' T = none → ∀ Z : VK, (∀ H4, Same H' H4 → Z (v x) H4) → g (.ref T) (wipe σ vs) (upd H' T (.tup [enc x.1, enc2 x.2])) fun σ2 H2 => wipe σ2 vs = wipe σ vs ∧ te σ2 H2 Z)
    (hd : ∀ D H', H1 D = none → Same H1 H' → H' D = some (.lst (L.map v)) → Q (.ref D) H') : LcG (ItzM K a b) g tYes te vs σ H1 Q :=
  lcZ L enc enc2 (fun _ => true) v hS hT hn (fun x T H' hx e hT => Trn.yes (hs x T H' hx e hT)) fun D H' hD e h => hd D H' hD e (by rw [flt_t] at h; exact h)
/-- pairs -/
def Pr (K : PySem.W.Frag) (H : Hp) (v : V) (p : Nat × Nat) : Prop := ∃ b, v = .ref b ∧ H b = some (.tup [nt p.1, nt p.2])
theorem Pr.mono {H H' : Hp} {v : V} {p : Nat × Nat} (e : Same H H') (h : Pr K H v p) : Pr K H' v p := let ⟨b, h1, h2⟩ := h; ⟨b, h1, e _ _ h2⟩
abbrev Prs (K : PySem.W.Frag) (H : Hp) : List V → List (Nat × Nat) → Prop := Paired (Pr K H)
theorem Prs.mono {H H' : Hp} (e : Same H H') : ∀ {xs : List V} {S : List (Nat × Nat)}, Prs K H xs S → Prs K H' xs S
  | _, _, .nil => .nil
  | _, _, .cons h t => .cons (h.mono e) (Prs.mono e t)
theorem pd_get {α β : Type} {F : α → β → Prop} : ∀ {l : List α} {m : List β} {i : Nat} {x : α}, Paired F l m → l[i]? = some x → ∃ y, m[i]? = some y ∧ F x y
  | _, _, _, _, .nil, e => by simp at e
  | _, _, 0, _, .cons h _, e => by simp at e; subst e; exact ⟨_, rfl, h⟩
  | _, _, i + 1, x, .cons _ t, e => by
    obtain ⟨y, h1, h2⟩ := pd_get (i := i) (x := x) t (by simpa using e)
    exact ⟨y, by simpa using h1, h2⟩
theorem pd_at {α β : Type} {F : α → β → Prop} : ∀ {l : List α} {m : List β} {i : Nat} {y : β}, Paired F l m → m[i]? = some y → ∃ x, l[i]? = some x ∧ F x y
  | _, _, _, _, .nil, e => by simp at e
  | _, _, 0, _, .cons h _, e => by simp at e; subst e; exact ⟨_, rfl, h⟩
  | _, _, i + 1, x, .cons _ t, e => by
    obtain ⟨y, h1, h2⟩ := pd_at (i := i) (y := x) t (by simpa using e)
    exact ⟨y, by simpa using h1, h2⟩
theorem lcPT (xs : List V) (S : List (Nat × Nat)) (p : Nat × Nat → Bool) (v : Nat × Nat → V) (hS : SqT K H1 a xs) (hp : Prs K H1 xs S) (hn : S.length ≤ 100000)
    (hs : ∀ q c H', q ∈ S → Same H1 H' → SqT K H' c [nt q.1, nt q.2] → Trn g tt te vs σ (.ref c) H' H' (p q) (v q)) (hd : ∀ D H', H1 D = none → Same H1 H' → H' D = some (.lst ((S.filter p).map v)) → Q (.ref D) H') : LcG (Itt K a) g tt te vs σ H1 Q := by
  refine lc_sel (walk_tup (xs := xs)) S hp.length.symm (fun _ => p) (fun _ => v) (fun H' e => same_t e hS) (by rw [hp.length]; exact hn) (fun i x y H' H'' hx e hy Z N hz hN => ?_) fun D H' hD e h => hd D H' hD e (by rw [← selF_const]; exact h)
  obtain ⟨rfl, h2⟩ := hy
  obtain ⟨q, h3, c, rfl, h4⟩ := pd_get hp h2
  rw [hx] at h3
  cases h3
  exact hs x c _ (List.mem_of_getElem? hx) e (SqT.of (e _ _ h4)) Z N hz hN
theorem mpPT (xs : List V) (S : List (Nat × Nat)) (v : Nat × Nat → V) (hS : SqT K H1 a xs) (hp : Prs K H1 xs S) (hn : S.length ≤ 100000)
    (hs : ∀ q c H', q ∈ S → Same H1 H' → SqT K H' c [nt q.1, nt q.2] → ∀ Z : VK, (∀ H4, Same H' H4 → Z (v q) H4) → g (.ref c) (wipe σ vs) H' fun σ2 H2 => wipe σ2 vs = wipe σ vs ∧ te σ2 H2 Z) (hd : ∀ D H', H1 D = none → Same H1 H' → H' D = some (.lst (S.map v)) → Q (.ref D) H') : LcG (Itt K a) g tYes te vs σ H1 Q :=
  lcPT xs S (fun _ => true) v hS hp hn (fun q c H' hx e hc => Trn.yes (hs q c H' hx e hc)) fun D H' hD e h => hd D H' hD e (by rw [flt_t] at h; exact h)
theorem lcPL (xs : List V) (S : List (Nat × Nat)) (p : Nat × Nat → Bool) (v : Nat × Nat → V) (hS : SqL K H1 a xs) (hp : Prs K H1 xs S) (hn : S.length ≤ 100000)
    (hs : ∀ q c H', q ∈ S → Same H1 H' → SqT K H' c [nt q.1, nt q.2] → Trn g tt te vs σ (.ref c) H' H' (p q) (v q)) (hd : ∀ D H', H1 D = none → Same H1 H' → H' D = some (.lst ((S.filter p).map v)) → Q (.ref D) H') : LcG (Itl K a) g tt te vs σ H1 Q := by
  refine lc_sel (walk_list (xs := xs)) S hp.length.symm (fun _ => p) (fun _ => v) (fun H' e => e.seq hS) (by rw [hp.length]; exact hn) (fun i x y H' H'' hx e hy Z N hz hN => ?_) fun D H' hD e h => hd D H' hD e (by rw [← selF_const]; exact h)
  obtain ⟨rfl, h2⟩ := hy
  obtain ⟨q, h3, c, rfl, h4⟩ := pd_get hp h2
  rw [hx] at h3
  cases h3
  exact hs x c _ (List.mem_of_getElem? hx) e (SqT.of (e _ _ h4)) Z N hz hN
theorem mpPL (xs : List V) (S : List (Nat × Nat)) (v : Nat × Nat → V) (hS : SqL K H1 a xs) (hp : Prs K H1 xs S) (hn : S.length ≤ 100000)
    (hs : ∀ q c H', q ∈ S → Same H1 H' → SqT K H' c [nt q.1, nt q.2] → ∀ Z : VK, (∀ H4, Same H' H4 → Z (v q) H4) → g (.ref c) (wipe σ vs) H' fun σ2 H2 => wipe σ2 vs = wipe σ vs ∧ te σ2 H2 Z) (hd : ∀ D H', H1 D = none → Same H1 H' → H' D = some (.lst (S.map v)) → Q (.ref D) H') : LcG (Itl K a) g tYes te vs σ H1 Q :=
  lcPL xs S (fun _ => true) v hS hp hn (fun q c H' hx e hc => Trn.yes (hs q c H' hx e hc)) fun D H' hD e h => hd D H' hD e (by rw [flt_t] at h; exact h)
end
end Wm
set_option Elab.async false
set_option linter.all false
set_option maxRecDepth 100000
set_option maxHeartbeats 4000000
/-! lists and tuples against empty ones; flat data -/
namespace Wm
open PySem PySem.Spec PyProof.Rows L2
def okD (n : Nat) (d : PyData) : Prop := d.canLay0 = true ∧ d.depth ≤ n
theorem okD_all {n : Nat} : ∀ {ds : List PyData}, (∀ d ∈ ds, okD n d) → PyData.canLayAll0 ds = true ∧ PyData.depthAll ds ≤ n
  | [], _ => ⟨rfl, Nat.zero_le _⟩
  | d :: ds, h => by
    obtain ⟨h1, h2⟩ := okD_all (ds := ds) fun x hx => h x (List.mem_cons_of_mem _ hx)
    obtain ⟨h3, h4⟩ := h d List.mem_cons_self
    refine ⟨?_, ?_⟩
    · rw [PyData.canLayAll0, h3, h1]; rfl
    · rw [PyData.depthAll]; omega
theorem okD_list {n : Nat} {ds : List PyData} (h : ∀ d ∈ ds, okD n d) : okD (n + 1) (.list ds) := by
  obtain ⟨h1, h2⟩ := okD_all h
  exact ⟨by rw [PyData.canLay0]; exact h1, by rw [PyData.depth]; omega⟩
theorem okD_tup {n : Nat} {ds : List PyData} (h : ∀ d ∈ ds, okD n d) : okD (n + 1) (.tuple ds) := by
  obtain ⟨h1, h2⟩ := okD_all h
  exact ⟨by rw [PyData.canLay0]; exact h1, by rw [PyData.depth]; omega⟩
theorem okD_int (i : Int) (n : Nat) : okD n (.int i) := ⟨by rw [PyData.canLay0], by rw [PyData.depth]; exact Nat.zero_le _⟩
theorem okD_non (n : Nat) : okD n .none := ⟨by rw [PyData.canLay0], by rw [PyData.depth]; exact Nat.zero_le _⟩
theorem okD.shaped {n : Nat} {d : PyData} (h : okD n d) (hn : n ≤ 64) : SeqAt.shaped d = true := by
  unfold SeqAt.shaped
  rw [h.1, decide_eq_true (Nat.le_trans h.2 hn)]
  rfl
theorem okD.mono {n m : Nat} {d : PyData} (h : okD n d) (hn : n ≤ m) : okD m d := ⟨h.1, Nat.le_trans h.2 hn⟩
theorem eqv_nilL (ds : List PyData) : PyData.eqv (.list ds) (.list []) = ds.isEmpty := by
  cases ds with
  | nil => simp [PyData.eqv, PyData.eqvAll]
  | cons d r => simp [PyData.eqv, PyData.eqvAll]
theorem eqv_nilT (ds : List PyData) : PyData.eqv (.tuple ds) (.tuple []) = ds.isEmpty := by
  cases ds with
  | nil => simp [PyData.eqv, PyData.eqvAll]
  | cons d r => simp [PyData.eqv, PyData.eqvAll]
section
variable {K : PySem.W.Frag} {H : Hp} {D p : Addr} {xs : List V} {ds : List PyData} {Q : VK}
theorem emp_eq (h : DpAll K H xs ds) : ds.isEmpty = xs.isEmpty := by
  cases h <;> rfl
theorem eqNilL (hS : SqL K H D xs) (hd : DpAll K H xs ds) (hk : ∀ d ∈ ds, okD 60 d) (hp : SqL K H p []) (q : Q (.bl xs.isEmpty) H) : rEqA K (.ref D) (.ref p) H Q :=
  .inr ⟨_, _, .lst hS hd, .lst hp .nil, (okD_list hk).shaped (by decide), by rfl, by rw [eqv_nilL, emp_eq hd]; exact q⟩
theorem neNilL (hS : SqL K H D xs) (hd : DpAll K H xs ds) (hk : ∀ d ∈ ds, okD 60 d) (hp : SqL K H p []) (q : Q (.bl (!xs.isEmpty)) H) : rNeA K (.ref D) (.ref p) H Q :=
  .inr ⟨_, _, .lst hS hd, .lst hp .nil, (okD_list hk).shaped (by decide), by rfl, by rw [eqv_nilL, emp_eq hd]; exact q⟩
theorem eqNilT (hS : SqT K H D xs) (hd : DpAll K H xs ds) (hk : ∀ d ∈ ds, okD 60 d) (hp : SqT K H p []) (q : Q (.bl xs.isEmpty) H) : rEqA K (.ref D) (.ref p) H Q :=
  .inr ⟨_, _, .tup hS hd, .tup hp .nil, (okD_tup hk).shaped (by decide), by rfl, by rw [eqv_nilT, emp_eq hd]; exact q⟩
theorem neNilT (hS : SqT K H D xs) (hd : DpAll K H xs ds) (hk : ∀ d ∈ ds, okD 60 d) (hp : SqT K H p []) (q : Q (.bl (!xs.isEmpty)) H) : rNeA K (.ref D) (.ref p) H Q :=
  .inr ⟨_, _, .tup hS hd, .tup hp .nil, (okD_tup hk).shaped (by decide), by rfl, by rw [eqv_nilT, emp_eq hd]; exact q⟩
/-- ints and Nones -/
def itD : Option Nat → PyData
  | none => .none
  | some n => .int n
theorem dp_it (o : Option Nat) : Dp K H (it o) (itD o) := by
  cases o with
  | none => exact .non
  | some n => exact .int _
theorem dpa_it (L : List (Option Nat)) : DpAll K H (L.map it) (L.map itD) := dpa_map dp_it L
theorem okD_it (o : Option Nat) (n : Nat) : okD n (itD o) := by
  cases o with
  | none => exact okD_non n
  | some m => exact okD_int _ n
theorem ok_its (L : List (Option Nat)) : ∀ d ∈ L.map itD, okD 60 d := fun d hd => by
  obtain ⟨o, _, rfl⟩ := List.mem_map.mp hd
  exact okD_it o 60
theorem dpa_nt (L : List Nat) : DpAll K H (L.map nt) (L.map fun n => .int (n : Nat)) := dpa_map (fun n => .int _) L
theorem ok_nts (L : List Nat) : ∀ d ∈ L.map (fun n => PyData.int (n : Nat)), okD 60 d := fun d hd => by
  obtain ⟨o, _, rfl⟩ := List.mem_map.mp hd
  exact okD_int _ 60
theorem dpa_int (L : List Int) : DpAll K H (L.map V.int) (L.map PyData.int) := dpa_map (fun n => .int _) L
theorem ok_ints (L : List Int) : ∀ d ∈ L.map PyData.int, okD 60 d := fun d hd => by
  obtain ⟨o, _, rfl⟩ := List.mem_map.mp hd
  exact okD_int _ 60
/-- against a display of nothing -/
theorem neNilI (L : List Int) (hS : SqL K H D (L.map V.int)) (hp : SqL K H p []) (q : Q (.bl (!L.isEmpty)) H) : rNeA K (.ref D) (.ref p) H Q :=
  neNilL hS (dpa_int L) (ok_ints L) hp (by have : (L.map V.int).isEmpty = L.isEmpty := by cases L <;> rfl
                                           rw [this]; exact q)
theorem eqNilI (L : List Int) (hS : SqL K H D (L.map V.int)) (hp : SqL K H p []) (q : Q (.bl L.isEmpty) H) : rEqA K (.ref D) (.ref p) H Q :=
  eqNilL hS (dpa_int L) (ok_ints L) hp (by have : (L.map V.int).isEmpty = L.isEmpty := by cases L <;> rfl
                                           rw [this]; exact q)
theorem neNilN (L : List Nat) (hS : SqL K H D (L.map nt)) (hp : SqL K H p []) (q : Q (.bl (!L.isEmpty)) H) : rNeA K (.ref D) (.ref p) H Q :=
  neNilL hS (dpa_nt L) (ok_nts L) hp (by have : (L.map nt).isEmpty = L.isEmpty := by cases L <;> rfl
                                         rw [this]; exact q)
theorem eqNilN (L : List Nat) (hS : SqL K H D (L.map nt)) (hp : SqL K H p []) (q : Q (.bl L.isEmpty) H) : rEqA K (.ref D) (.ref p) H Q :=
  eqNilL hS (dpa_nt L) (ok_nts L) hp (by have : (L.map nt).isEmpty = L.isEmpty := by cases L <;> rfl
                                         rw [this]; exact q)
theorem neNilO (L : Lay) (hS : SqL K H D (L.map it)) (hp : SqL K H p []) (q : Q (.bl (!L.isEmpty)) H) : rNeA K (.ref D) (.ref p) H Q :=
  neNilL hS (dpa_it L) (ok_its L) hp (by have : (L.map it).isEmpty = L.isEmpty := by cases L <;> rfl
                                         rw [this]; exact q)
end
end Wm
set_option Elab.async false
set_option linter.all false
set_option maxRecDepth 100000
set_option maxHeartbeats 4000000
/-! promises of the law's helpers -/
namespace Wm
open PySem PySem.Spec PyProof.Rows L2
theorem ix_nt {n j : Nat} (h : j < n) : ixN n (j : Int) = some j := by
  unfold ixN
  rw [if_pos (by omega)]
  simp [h]
theorem pos_nt {α : Type} (p : Nat → α → Bool) (L : List α) : sel p (fun i _ => nt i) L = (pos p L).map nt := selF_map p (fun i _ => i) nt L 0
/-- the places with room -/
def wRoom (ns : List Nat) (L : Lay) : List Nat := pos (fun _ o => match o with | none => true | some v => decide (0 < (rms ns L).getD v 0)) L
def pWithRoom (K : PySem.W.Frag) (x y : V) (H : Hp) (Q : VK) : Prop := ∃ ns L, Nd K H x ns ∧ LyT K H y L ∧ ns.length ≤ 1000 ∧ L.length ≤ 1000 ∧ (∀ v, some v ∈ L → v < ns.length) ∧
  ∀ H' p, Same H H' → H p = none → H' p = some (.lst ((wRoom ns L).map nt)) → Q (.ref p) H'
abbrev Stretch := List (Nat × Nat)
def StT (K : PySem.W.Frag) (H : Hp) (x : V) (S : Stretch) : Prop := ∃ c xs, x = .ref c ∧ SqT K H c xs ∧ Prs K H xs S
def StL (K : PySem.W.Frag) (H : Hp) (x : V) (S : Stretch) : Prop := ∃ c xs, x = .ref c ∧ SqL K H c xs ∧ Prs K H xs S
section
variable {K : PySem.W.Frag} {H H' : Hp} {x : V} {S : Stretch}
theorem StT.mono (e : Same H H') (h : StT K H x S) : StT K H' x S := let ⟨c, xs, h1, h2, h3⟩ := h; ⟨c, xs, h1, same_t e h2, Prs.mono e h3⟩
theorem StL.mono (e : Same H H') (h : StL K H x S) : StL K H' x S := let ⟨c, xs, h1, h2, h3⟩ := h; ⟨c, xs, h1, e.seq h2, Prs.mono e h3⟩
end
/-- a stretch written: all read from the layout ahead -/
def ledF (L : Lay) : Stretch → Lay → Lay
  | [], F => F
  | (p, s) :: r, F => ledF L r (F.set p (L.getD s none))
theorem ledF_len (L : Lay) : ∀ (S : Stretch) (F : Lay), (ledF L S F).length = F.length
  | [], _ => rfl
  | (p, s) :: r, F => by
    show (ledF L r _).length = _
    rw [ledF_len L r, List.length_set]
theorem ledF_snoc (L : Lay) (q : Nat × Nat) : ∀ (S : Stretch) (F : Lay), ledF L (S ++ [q]) F = (ledF L S F).set q.1 (L.getD q.2 none)
  | [], _ => rfl
  | (p, s) :: r, F => by
    show ledF L (r ++ [q]) _ = (ledF L r _).set _ _
    rw [ledF_snoc L q r]
def ledS (L : Lay) (S : Stretch) : Lay := ledF L S L
def pLed (K : PySem.W.Frag) (x y : V) (H : Hp) (Q : VK) : Prop := ∃ L S, LyT K H x L ∧ StT K H y S ∧ L.length ≤ 1000 ∧ S.length ≤ 1000 ∧ (∀ q ∈ S, q.1 < L.length ∧ q.2 < L.length) ∧ ∀ H' v, Same H H' → LyT K H' v (ledS L S) → Q v H'
theorem inV_nt (i : Nat) : ∀ P : List Nat, inV (nt i) (P.map nt) = P.contains i
  | [] => rfl
  | p :: P => by
    have ih := inV_nt i P
    show (eqV (nt p) (nt i) || inV (nt i) (P.map nt)) = _
    rw [ih, List.contains_cons]
    congr 1
    show ((p : Int) == (i : Int)) = (i == p)
    rw [Bool.eq_iff_iff, beq_iff_eq, beq_iff_eq]
    omega
theorem nts_flat (P : List Nat) : (P.map nt).all flatV = true := by
  rw [List.all_eq_true]
  intro x hx
  obtain ⟨n, _, rfl⟩ := List.mem_map.mp hx
  rfl
theorem cut_take (xs : List V) (k : Nat) : cutV xs none (some (k : Int)) = xs.take k := by
  unfold cutV
  rw [HT.sIx_nat, HT.sIx_none, List.drop_zero, Nat.sub_zero]
  exact List.take_eq_take_iff.mpr (by omega)
theorem cut_drop (xs : List V) (k : Nat) : cutV xs (some (k : Int)) none = xs.drop k := by
  unfold cutV
  rw [HT.sIx_nat, HT.sIx_none]
  by_cases h : k ≤ xs.length
  · rw [Nat.min_eq_left h]
    exact List.take_of_length_le (by rw [List.length_drop]; omega)
  · rw [Nat.min_eq_right (by omega), List.drop_eq_nil_of_le (Nat.le_refl _), List.drop_eq_nil_of_le (by omega)]
    simp
section
variable {K : PySem.W.Frag} {H : Hp} {a b : Addr} {xs ys : List V} {Q : VK}
theorem slT {lo hi : Option Int} (ha : SqT K H a xs) (q : ∀ H' c, Same H H' → SqT K H' c (cutV xs lo hi) → Q (.ref c) H') : rSlo K (.ref a) lo hi H Q := by
  refine .inr ⟨a, xs, rfl, ha, fun ⟨h1, h2⟩ => q H a (Same.refl _) ?_, fun _ p hp => q _ p (Same.new hp) (SqT.of upd_same)⟩
  have e : cutV xs lo hi = xs := by
    unfold cutV
    rw [h1, h2, List.drop_zero, Nat.sub_zero, List.take_length]
  rw [e]
  exact ha
theorem catT (ha : SqT K H a xs) (hb : SqT K H b ys) (hn : xs.length + ys.length ≤ sizeLine) (q : ∀ H' c, Same H H' → SqT K H' c (xs ++ ys) → Q (.ref c) H') : rAdd K (.ref a) (.ref b) H Q := by
  refine .inr (.inr ⟨a, b, xs, ys, rfl, rfl, ha, hb, hn, fun e => ?_, fun _ e => ?_, fun _ _ p hp => q _ p (Same.new hp) (SqT.of upd_same)⟩)
  · subst e; exact q H b (Same.refl _) hb
  · subst e; exact q H a (Same.refl _) (by rw [List.append_nil]; exact ha)
theorem catL (ha : H a = some (.lst xs)) (hb : H b = some (.lst ys)) (hn : xs.length + ys.length ≤ sizeLine) (q : ∀ p, H p = none → Q (.ref p) (upd H p (.lst (xs ++ ys)))) : rAdd K (.ref a) (.ref b) H Q :=
  .inr (.inl ⟨a, b, xs, ys, rfl, rfl, ha, hb, hn, q⟩)
theorem ixT {i : Int} {v : V} (ha : SqT K H a xs) (hv : atI xs i = some v) (q : Q v H) : rIx K (.ref a) (.int i) H Q := .inr (.inl ⟨a, xs, i, v, rfl, rfl, ha, hv, q⟩)
theorem ixL {i : Int} {v : V} (ha : SqL K H a xs) (hv : atI xs i = some v) (q : Q v H) : rIx K (.ref a) (.int i) H Q := .inl ⟨a, xs, i, v, rfl, rfl, ha, hv, q⟩
end
/-- what stands outside some places -/
def outs (L : Lay) (P : List Nat) : Lay := sel (fun i _ => !P.contains i) (fun _ o => o) L
def safeB (ns : List Nat) (L : Lay) (S : Stretch) : Bool := ((rms ns (outs L (S.map (·.1)))).filter fun z => decide (z < 0)).isEmpty
def pIsSafe (K : PySem.W.Frag) (x y z : V) (H : Hp) (Q : VK) : Prop := ∃ ns L S, Nd K H x ns ∧ LyT K H y L ∧ StL K H z S ∧ ns.length ≤ 1000 ∧ L.length ≤ 1000 ∧ S.length ≤ 1000 ∧ ∀ H', Same H H' → Q (.bl (safeB ns L S)) H'
/-- the places whose wish isn't fulfilled -/
def wrong (W L : Lay) : List Nat := pos (fun i o => match o with | none => false | some v => !decide (it (some v) = it (L.getD i none))) W
def pIsWanted (K : PySem.W.Frag) (x y : V) (H : Hp) (Q : VK) : Prop := ∃ W L, LyT K H x W ∧ LyT K H y L ∧ W.length ≤ 1000 ∧ W.length = L.length ∧ ∀ H', Same H H' → Q (.bl (wrong W L).isEmpty) H'
def pMet (K : PySem.W.Frag) (x : V) (H : Hp) (Q : VK) : Prop := ∃ S, StL K H x S ∧ S.length ≤ 1000 ∧ ∀ H' p, Same H H' → H p = none → H' p = some (.lst ((S.flatMap fun q => [q.1, q.2]).map nt)) → Q (.ref p) H'
def pSourceOf (K : PySem.W.Frag) (x y z : V) (H : Hp) (Q : VK) : Prop := ∃ L p o, LyT K H x L ∧ y = nt p ∧ z = it o ∧ L.length ≤ 1000 ∧ (∃ r, L[r]? = some o ∧ r ≠ p) ∧ ∀ H' r, Same H H' → L[r]? = some o → r ≠ p → Q (nt r) H'
def CsT (K : PySem.W.Frag) (H : Hp) (x : V) (cs : List Int) : Prop := ∃ c, x = .ref c ∧ SqT K H c (cs.map V.int)
theorem CsT.mono {K : PySem.W.Frag} {H H' : Hp} {x : V} {cs : List Int} (e : Same H H') (h : CsT K H x cs) : CsT K H' x cs := let ⟨c, h1, h2⟩ := h; ⟨c, h1, same_t e h2⟩
def pWith (K : PySem.W.Frag) (x y z : V) (H : Hp) (Q : VK) : Prop := ∃ cs p i, CsT K H x cs ∧ y = nt p ∧ z = .int i ∧ p < cs.length ∧ cs.length ≤ 1000 ∧ ∀ H' v, Same H H' → CsT K H' v (cs.set p i) → Q v H'
/-- plans, tasks -/
abbrev Plan := List Stretch
def PlT (K : PySem.W.Frag) (H : Hp) (x : V) (P : Plan) : Prop := ∃ c xs, x = .ref c ∧ SqT K H c xs ∧ Paired (StT K H) xs P
def PlL (K : PySem.W.Frag) (H : Hp) (x : V) (P : Plan) : Prop := ∃ c xs, x = .ref c ∧ H c = some (.lst xs) ∧ Paired (StT K H) xs P
theorem sts_mono {K : PySem.W.Frag} {H H' : Hp} (e : Same H H') : ∀ {xs : List V} {P : Plan}, Paired (StT K H) xs P → Paired (StT K H') xs P
  | _, _, .nil => .nil
  | _, _, .cons h t => .cons (h.mono e) (sts_mono e t)
theorem lys_mono {K : PySem.W.Frag} {H H' : Hp} (e : Same H H') : ∀ {xs : List V} {P : List Lay}, Paired (LyT K H) xs P → Paired (LyT K H') xs P
  | _, _, .nil => .nil
  | _, _, .cons h t => .cons (h.mono e) (lys_mono e t)
theorem PlT.mono {K : PySem.W.Frag} {H H' : Hp} {x : V} {P : Plan} (e : Same H H') (h : PlT K H x P) : PlT K H' x P := let ⟨c, xs, h1, h2, h3⟩ := h; ⟨c, xs, h1, same_t e h2, sts_mono e h3⟩
structure Task where
  ns : List Nat
  old : Lay
  wish : Lay
def TkT (K : PySem.W.Frag) (H : Hp) (x : V) (T : Task) : Prop := ∃ c a b d, x = .ref c ∧ SqT K H c [a, b, d] ∧ Nd K H a T.ns ∧ LyF K H b T.old ∧ LyF K H d T.wish
theorem TkT.mono {K : PySem.W.Frag} {H H' : Hp} {x : V} {T : Task} (e : Same H H') (h : TkT K H x T) : TkT K H' x T := let ⟨c, a, b, d, h1, h2, h3, h4, h5⟩ := h; ⟨c, a, b, d, h1, same_t e h2, h3.mono e, h4.mono e, h5.mono e⟩
theorem TkT.open {K : PySem.W.Frag} {H : Hp} {x : V} {T : Task} (h : TkT K H x T) : ∃ c a b d, x = .ref c ∧ SqT K H c [a, b, d] ∧ Nd K H a T.ns ∧ LyT K H b T.old ∧ LyT K H d T.wish :=
  let ⟨c, a, b, d, h1, h2, h3, h4, h5⟩ := h; ⟨c, a, b, d, h1, h2, h3, h4.t, h5.t⟩
/-- the layouts of a plan -/
def lays (L : Lay) : Plan → List Lay
  | [] => [L]
  | S :: P => L :: lays (ledS L S) P
def lastL (L : Lay) : Plan → Lay
  | [] => L
  | S :: P => lastL (ledS L S) P
def plenS (S : Stretch) : Nat := S.length
end Wm
set_option Elab.async false
set_option linter.all false
set_option maxRecDepth 100000
set_option maxHeartbeats 4000000
/-! plain: layouts that are right, stretches that are safe, plans -/
namespace Wm
open PySem PySem.Spec PyProof.Rows L2
structure Right (ns : List Nat) (L : Lay) : Prop where
  val : ∀ v, some v ∈ L → v < ns.length
  many : ∀ (v n : Nat), ns[v]? = some n → n ≤ cn L v
theorem rms_ok {ns : List Nat} {L : Lay} : ((rms ns L).filter fun z => decide (z < 0)).isEmpty = true ↔ ∀ (v n : Nat), ns[v]? = some n → n ≤ cn L v := by
  rw [List.isEmpty_iff, List.filter_eq_nil_iff]
  constructor
  · intro h v n hv
    obtain ⟨h1, h2⟩ := List.getElem?_eq_some_iff.mp hv
    have := h (((cn L v : Nat) : Int) - ((ns.getD v 0 : Nat) : Int)) (List.mem_map.mpr ⟨v, List.mem_range.mpr h1, rfl⟩)
    rw [List.getD_eq_getElem?_getD, hv] at this
    simp at this
    omega
  · intro h z hz
    obtain ⟨v, hv, rfl⟩ := List.mem_map.mp hz
    have hv := List.mem_range.mp hv
    have := h v ns[v] (List.getElem?_eq_getElem hv)
    rw [List.getD_eq_getElem?_getD, List.getElem?_eq_getElem hv]
    simp
    omega
theorem right_ok {ns : List Nat} {L : Lay} (h : rightB ns L = true) : Right ns L := by
  obtain ⟨h1, h2⟩ := Bool.and_eq_true_iff.mp h
  refine ⟨fun v hv => ?_, rms_ok.mp h2⟩
  rw [List.isEmpty_iff, List.filter_eq_nil_iff] at h1
  have := h1 _ hv
  simp [okO] at this
  omega
theorem selF_congr {α β : Type} {p : Nat → α → Bool} {v : Nat → α → β} {p' : Nat → α → Bool} {v' : Nat → α → β} : ∀ {L L' : List α} {k : Nat}, L.length = L'.length →
    (∀ i a b, L[i]? = some a → L'[i]? = some b → p (k + i) a = p' (k + i) b ∧ (p (k + i) a = true → v (k + i) a = v' (k + i) b)) → selF p v k L = selF p' v' k L'
  | [], [], _, _, _ => rfl
  | [], _ :: _, _, h, _ => by simp at h
  | _ :: _, [], _, h, _ => by simp at h
  | a :: L, b :: L', k, hl, h => by
    have ih := selF_congr (p := p) (v := v) (p' := p') (v' := v') (L := L) (L' := L') (k := k + 1) (by simpa using hl) fun i x y h1 h2 => by
      have := h (i + 1) x y (by simpa using h1) (by simpa using h2)
      rwa [show k + (i + 1) = k + 1 + i by omega] at this
    obtain ⟨h1, h2⟩ := h 0 a b rfl rfl
    rw [Nat.add_zero] at h1 h2
    show (if p k a then _ :: selF p v (k + 1) L else selF p v (k + 1) L) = (if p' k b then _ :: selF p' v' (k + 1) L' else selF p' v' (k + 1) L')
    rw [ih, ← h1]
    by_cases hp : p k a = true
    · rw [if_pos hp, if_pos hp, h2 hp]
    · rw [if_neg hp, if_neg hp]
theorem selF_sub {α : Type} (p : Nat → α → Bool) : ∀ (L : List α) (k : Nat), (selF p (fun _ a => a) k L).Sublist L
  | [], _ => List.Sublist.slnil
  | a :: L, k => by
    have ih := selF_sub p L (k + 1)
    show (if p k a then _ :: selF p (fun _ a => a) (k + 1) L else selF p (fun _ a => a) (k + 1) L).Sublist _
    split
    · exact ih.cons_cons a
    · exact ih.cons a
theorem outs_le (L : Lay) (P : List Nat) (v : Nat) : cn (outs L P) v ≤ cn L v := (selF_sub _ L 0).count_le _
theorem outs_congr {L L' : Lay} {P P' : List Nat} (hl : L.length = L'.length) (hp : ∀ i, i < L.length → (i ∈ P ↔ i ∈ P')) (h : ∀ i, i ∉ P → i < L.length → L[i]? = L'[i]?) : outs L P = outs L' P' := by
  refine selF_congr hl fun i a b h1 h2 => ?_
  rw [Nat.zero_add]
  have hi := (List.getElem?_eq_some_iff.mp h1).1
  have e : P.contains i = P'.contains i := by rw [Bool.eq_iff_iff, List.contains_iff_mem, List.contains_iff_mem]; exact hp i hi
  refine ⟨by rw [e], fun hc => ?_⟩
  have : i ∉ P := fun hm => by simp [hm] at hc
  have := h i this hi
  rw [h1, h2] at this
  exact Option.some.inj this
theorem outs_mono {L : Lay} {P P' : List Nat} (hp : ∀ i, i ∈ P' → i ∈ P) (v : Nat) : cn (outs L P) v ≤ cn (outs L P') v := by
  have e : outs L P = selF (fun i o => !P.contains i) (fun _ o => o) 0 L := rfl
  have gen : ∀ (L : Lay) (k : Nat), (selF (fun i (_ : Option Nat) => !P.contains i) (fun _ o => o) k L).count (some v) ≤ (selF (fun i (_ : Option Nat) => !P'.contains i) (fun _ o => o) k L).count (some v) := by
    intro L
    induction L with
    | nil => intro k; exact Nat.le_refl _
    | cons a L ih =>
      intro k
      have h := ih (k + 1)
      show (if !P.contains k then _ :: selF _ _ (k + 1) L else selF _ _ (k + 1) L).count _ ≤ (if !P'.contains k then _ :: selF _ _ (k + 1) L else selF _ _ (k + 1) L).count _
      by_cases h1 : k ∈ P
      · have e1 : P.contains k = true := List.contains_iff_mem.mpr h1
        rw [e1]
        simp only [Bool.not_true, Bool.false_eq_true, if_false]
        split
        · rw [List.count_cons]; omega
        · exact h
      · have h2 : k ∉ P' := fun z => h1 (hp k z)
        have e1 : P.contains k = false := by simpa using h1
        have e2 : P'.contains k = false := by simpa using h2
        rw [e1, e2]
        simp only [Bool.not_false, if_true]
        rw [List.count_cons, List.count_cons]
        omega
  exact gen L 0
/-! ### stretches -/
abbrev plc (S : Stretch) : List Nat := S.map (·.1)
theorem ledF_out (L : Lay) : ∀ (S : Stretch) (F : Lay) (i : Nat), i ∉ plc S → (ledF L S F)[i]? = F[i]?
  | [], _, _, _ => rfl
  | (p, s) :: r, F, i, h => by
    have h1 : i ∉ plc r := fun z => h (List.mem_cons_of_mem _ z)
    have h2 : p ≠ i := fun z => h (by rw [← z]; exact List.mem_cons_self)
    show (ledF L r (F.set p (L.getD s none)))[i]? = _
    rw [ledF_out L r _ i h1, List.getElem?_set_ne h2]
theorem ledF_in (L : Lay) : ∀ (S : Stretch) (F : Lay) (q : Nat × Nat), (plc S).Nodup → q ∈ S → q.1 < F.length → (ledF L S F)[q.1]? = some (L.getD q.2 none)
  | [], _, _, _, h, _ => by cases h
  | (p, s) :: r, F, q, hn, h, hl => by
    have hn' := List.nodup_cons.mp hn
    show (ledF L r (F.set p (L.getD s none)))[q.1]? = _
    rcases List.mem_cons.mp h with e | h
    · subst e
      rw [ledF_out L r _ p hn'.1, List.getElem?_set_self hl]
    · exact ledF_in L r _ q hn'.2 h (by rw [List.length_set]; exact hl)
theorem ledS_len (L : Lay) (S : Stretch) : (ledS L S).length = L.length := ledF_len L S L
theorem ledS_out {L : Lay} {S : Stretch} {i : Nat} (h : i ∉ plc S) : (ledS L S)[i]? = L[i]? := ledF_out L S L i h
theorem ledS_in {L : Lay} {S : Stretch} {q : Nat × Nat} (hn : (plc S).Nodup) (h : q ∈ S) (hl : q.1 < L.length) : (ledS L S)[q.1]? = some (L.getD q.2 none) := ledF_in L S L q hn h hl
/-- safe: enough stands outside the places -/
def Safe (ns : List Nat) (L : Lay) (P : List Nat) : Prop := ∀ (v n : Nat), ns[v]? = some n → n ≤ cn (outs L P) v
theorem safe_ok {ns : List Nat} {L : Lay} {S : Stretch} (h : safeB ns L S = true) : Safe ns L (plc S) := rms_ok.mp h
structure GoodS (ns : List Nat) (L : Lay) (S : Stretch) : Prop where
  ne : S ≠ []
  lot : (plc S).Pairwise (· < ·)
  low : ∀ q ∈ S, q.1 < L.length ∧ q.2 < L.length
  src : ∀ q ∈ S, q.2 ∉ plc S
  full : ∀ q ∈ S, L.getD q.2 none ≠ none
  safe : Safe ns L (plc S)
theorem GoodS.nd {ns : List Nat} {L : Lay} {S : Stretch} (g : GoodS ns L S) : (plc S).Nodup := g.lot.imp fun h => Nat.ne_of_lt h
theorem right_led {ns : List Nat} {L : Lay} {S : Stretch} (r : Right ns L) (g : GoodS ns L S) : Right ns (ledS L S) := by
  constructor
  · intro v hv
    obtain ⟨i, hi⟩ := List.mem_iff_getElem?.mp hv
    by_cases h : i ∈ plc S
    · obtain ⟨q, hq, rfl⟩ := List.mem_map.mp h
      rw [ledS_in g.nd hq (g.low q hq).1] at hi
      have e : L[q.2]? = some (some v) := by
        rw [List.getD_eq_getElem?_getD, List.getElem?_eq_getElem (g.low q hq).2] at hi
        rw [List.getElem?_eq_getElem (g.low q hq).2]
        simpa using hi
      exact r.val v (List.mem_of_getElem? e)
    · rw [ledS_out h] at hi
      exact r.val v (List.mem_of_getElem? hi)
  · intro v n hv
    have h1 := g.safe v n hv
    have h2 : outs L (plc S) = outs (ledS L S) (plc S) := outs_congr (ledS_len L S).symm (fun _ _ => Iff.rfl) fun i hi _ => (ledS_out hi).symm
    rw [h2] at h1
    exact Nat.le_trans h1 (outs_le _ _ v)
def GoodP (ns : List Nat) : Lay → Plan → Prop
  | _, [] => True
  | L, S :: P => GoodS ns L S ∧ GoodP ns (ledS L S) P
theorem lastL_snoc (S : Stretch) : ∀ (P : Plan) (L : Lay), lastL L (P ++ [S]) = ledS (lastL L P) S
  | [], _ => rfl
  | T :: P, L => lastL_snoc S P (ledS L T)
theorem goodP_snoc {ns : List Nat} (S : Stretch) : ∀ (P : Plan) (L : Lay), GoodP ns L (P ++ [S]) ↔ GoodP ns L P ∧ GoodS ns (lastL L P) S
  | [], L => by
    show (GoodS ns L S ∧ True) ↔ True ∧ GoodS ns L S
    rw [and_true, true_and]
  | T :: P, L => by
    have ih := goodP_snoc (ns := ns) S P (ledS L T)
    show (GoodS ns L T ∧ GoodP ns (ledS L T) (P ++ [S])) ↔ (GoodS ns L T ∧ GoodP ns (ledS L T) P) ∧ GoodS ns (lastL (ledS L T) P) S
    rw [ih, and_assoc]
theorem lastL_len : ∀ (P : Plan) (L : Lay), (lastL L P).length = L.length
  | [], _ => rfl
  | T :: P, L => by
    show (lastL (ledS L T) P).length = _
    rw [lastL_len P, ledS_len]
theorem right_last {ns : List Nat} : ∀ {P : Plan} {L : Lay}, Right ns L → GoodP ns L P → Right ns (lastL L P)
  | [], _, r, _ => r
  | S :: P, L, r, g => right_last (P := P) (L := ledS L S) (right_led r g.1) g.2
/-! ### sorted pairs -/
def decP (H : Hp) (v : V) : Nat × Nat := match v with
  | .ref t => (match H t with
    | some (.tup [.int a, .int b]) => (a.toNat, b.toNat)
    | _ => (0, 0))
  | _ => (0, 0)
theorem decP_pr {K : PySem.W.Frag} {H : Hp} {v : V} {q : Nat × Nat} (h : Pr K H v q) : decP H v = q := by
  obtain ⟨b, rfl, hb⟩ := h
  unfold decP
  simp only [hb]
  rfl
theorem decP_prs {K : PySem.W.Frag} {H : Hp} : ∀ {xs : List V} {S : Stretch}, Prs K H xs S → S = xs.map (decP H)
  | _, _, .nil => rfl
  | _, _, .cons h t => by rw [List.map_cons, decP_pr h, ← decP_prs t]
theorem pr_mem {K : PySem.W.Frag} {H : Hp} {x : V} : ∀ {xs : List V} {S : Stretch}, Prs K H xs S → x ∈ xs → ∃ q ∈ S, Pr K H x q
  | _, _, .nil, h => by cases h
  | _, _, .cons h t, hm => by
    rcases List.mem_cons.mp hm with rfl | hm
    · exact ⟨_, List.mem_cons_self, h⟩
    · obtain ⟨q, h1, h2⟩ := pr_mem t hm
      exact ⟨q, List.mem_cons_of_mem _ h1, h2⟩
theorem prs_of {K : PySem.W.Frag} {H : Hp} : ∀ {ys : List V}, (∀ x ∈ ys, ∃ q, Pr K H x q) → Prs K H ys (ys.map (decP H))
  | [], _ => .nil
  | y :: ys, h => by
    obtain ⟨q, hq⟩ := h y List.mem_cons_self
    refine .cons ?_ (prs_of fun x hx => h x (List.mem_cons_of_mem _ hx))
    rw [decP_pr hq]
    exact hq
abbrev keyP (H : Hp) (v : V) : Int × Int := (((decP H v).1 : Nat), ((decP H v).2 : Nat))
theorem keyP_ok {K : PySem.W.Frag} {H : Hp} {xs : List V} {S : Stretch} (h : Prs K H xs S) : ∀ x ∈ xs, ∃ t, x = V.ref t ∧ H t = some (.tup [.int (keyP H x).1, .int (keyP H x).2]) := fun x hx => by
  obtain ⟨q, _, hq⟩ := pr_mem h hx
  have e := decP_pr hq
  obtain ⟨b, rfl, hb⟩ := hq
  refine ⟨b, rfl, ?_⟩
  rw [hb]
  show _ = some (HO.tup [.int (((decP H (.ref b)).1 : Nat) : Int), .int (((decP H (.ref b)).2 : Nat) : Int)])
  rw [e]
/-- sorted, places apart: they rise -/
theorem sorted_prs {K : PySem.W.Frag} {H : Hp} {xs ys : List V} {S : Stretch} (h : Prs K H xs S) (hs : SrtO.Srtd (ltP (keyP H)) ys) (hp : ys.Perm xs) :
    ∃ S', Prs K H ys S' ∧ S'.Perm S ∧ ((plc S).Nodup → (plc S').Pairwise (· < ·)) := by
  have e := decP_prs h
  have hp2 : (ys.map (decP H)).Perm S := by rw [e]; exact hp.map _
  refine ⟨ys.map (decP H), prs_of fun x hx => ?_, hp2, fun hn => ?_⟩
  · obtain ⟨q, _, hq⟩ := pr_mem h (hp.mem_iff.mp hx)
    exact ⟨q, hq⟩
  · have hn2 : (plc (ys.map (decP H))).Nodup := (hp2.map _).nodup_iff.mpr hn
    unfold plc at hn2 ⊢
    rw [List.map_map] at hn2 ⊢
    rw [List.pairwise_map]
    have hn3 := List.pairwise_map.mp hn2
    refine (hs.and hn3).imp fun {x y} ⟨h1, h2⟩ => ?_
    have := SrtO.lexB_no.mp h1
    simp only [Function.comp] at h2 ⊢
    simp only [keyP] at this
    omega
/-- a stretch in the making -/
structure PreS (ns : List Nat) (L : Lay) (S : Stretch) : Prop where
  nd : (plc S).Nodup
  low : ∀ q ∈ S, q.1 < L.length ∧ q.2 < L.length
  src : ∀ q ∈ S, q.2 ∉ plc S
  full : ∀ q ∈ S, L.getD q.2 none ≠ none
  safe : S = [] ∨ Safe ns L (plc S)
theorem PreS.add {ns : List Nat} {L : Lay} {S : Stretch} {p s : Nat} (h : PreS ns L S) (hp : p < L.length) (hs : s < L.length) (h1 : p ∉ S.flatMap fun q => [q.1, q.2]) (h2 : s ∉ plc S) (hne : p ≠ s) (hf : L.getD s none ≠ none) (hsafe : Safe ns L (plc (S ++ [(p, s)]))) : PreS ns L (S ++ [(p, s)]) := by
  have h3 : ∀ q ∈ S, p ≠ q.1 ∧ p ≠ q.2 := fun q hq => ⟨fun z => h1 (List.mem_flatMap.mpr ⟨q, hq, by rw [z]; simp⟩), fun z => h1 (List.mem_flatMap.mpr ⟨q, hq, by rw [z]; simp⟩)⟩
  have e : plc (S ++ [(p, s)]) = plc S ++ [p] := by simp [plc]
  refine ⟨?_, fun q hq => ?_, fun q hq => ?_, fun q hq => ?_, .inr hsafe⟩
  · rw [e, List.nodup_append]
    refine ⟨h.nd, by simp, fun a ha b hb => ?_⟩
    obtain ⟨q, hq, rfl⟩ := List.mem_map.mp ha
    rw [List.mem_singleton.mp hb]
    exact fun z => (h3 q hq).1 z.symm
  · rcases List.mem_append.mp hq with hq | hq
    · exact h.low q hq
    · rw [List.mem_singleton.mp hq]; exact ⟨hp, hs⟩
  · rw [e]
    rcases List.mem_append.mp hq with hq | hq
    · intro z
      rcases List.mem_append.mp z with z | z
      · exact h.src q hq z
      · exact (h3 q hq).2 (List.mem_singleton.mp z).symm
    · rw [List.mem_singleton.mp hq]
      intro z
      rcases List.mem_append.mp z with z | z
      · exact h2 z
      · exact hne (List.mem_singleton.mp z).symm
  · rcases List.mem_append.mp hq with hq | hq
    · exact h.full q hq
    · rw [List.mem_singleton.mp hq]; exact hf
theorem safe_perm {ns : List Nat} {L : Lay} {P P' : List Nat} (h : ∀ i, i ∈ P ↔ i ∈ P') (s : Safe ns L P) : Safe ns L P' := by
  intro v n hv
  rw [← outs_congr (L := L) (L' := L) rfl (fun i _ => h i) fun _ _ _ => rfl]
  exact s v n hv
theorem PreS.good {ns : List Nat} {L : Lay} {S S' : Stretch} (h : PreS ns L S) (hp : S'.Perm S) (hl : (plc S').Pairwise (· < ·)) (hne : S' ≠ []) : GoodS ns L S' := by
  have hm : ∀ i, i ∈ plc S ↔ i ∈ plc S' := fun i => (hp.map (·.1)).mem_iff.symm
  refine ⟨hne, hl, fun q hq => h.low q (hp.mem_iff.mp hq), fun q hq z => h.src q (hp.mem_iff.mp hq) ((hm _).mpr z), fun q hq => h.full q (hp.mem_iff.mp hq), ?_⟩
  rcases h.safe with e | e
  · subst e
    exact absurd hp.eq_nil hne
  · exact safe_perm hm e
def pAnyStretch (K : PySem.W.Frag) (x y z w : V) (H : Hp) (Q : VK) : Prop := ∃ b ns L m, x = .ref b ∧ Bag H b ∧ Nd K H y ns ∧ LyT K H z L ∧ w = nt m ∧ m ≤ 20 ∧ ns.length ≤ 1000 ∧ L.length ≤ 1000 ∧
  ∀ H' v S, Same H H' → StT K H' v S → (S ≠ [] → GoodS ns L S) → S.length ≤ m → Q v H'
structure GoodT (T : Task) : Prop where
  pos : ∀ n ∈ T.ns, 1 ≤ n
  old : Right T.ns T.old
  wish : Right T.ns T.wish
  len : T.old.length = T.wish.length
end Wm
set_option Elab.async false
set_option linter.all false
set_option maxRecDepth 100000
set_option maxHeartbeats 4000000
/-! plain: the next copies, and that a plan comes to an end -/
namespace Wm
open PySem PySem.Spec PyProof.Rows L2
theorem getD_some {L : Lay} {i : Nat} {v : Nat} : L.getD i none = some v ↔ L[i]? = some (some v) := by
  rw [List.getD_eq_getElem?_getD]
  cases h : L[i]? with
  | none => simp
  | some o => simp
theorem cn_set {L : Lay} {p : Nat} {x : Option Nat} (v : Nat) (hp : p < L.length) : cn (L.set p x) v + (if L.getD p none = some v then 1 else 0) = cn L v + (if x = some v then 1 else 0) := by
  induction L generalizing p with
  | nil => simp at hp
  | cons a L ih =>
    cases p with
    | zero =>
      show (x :: L).count (some v) + (if a = some v then 1 else 0) = (a :: L).count (some v) + _
      rw [List.count_cons, List.count_cons]
      by_cases h1 : a = some v <;> by_cases h2 : x = some v <;> simp [h1, h2]
    | succ p =>
      have h9 : List.count (some v) (L.set p x) + (if L.getD p none = some v then 1 else 0) = List.count (some v) L + (if x = some v then 1 else 0) := ih (p := p) (by simpa using hp)
      show (a :: L.set p x).count (some v) + (if L.getD p none = some v then 1 else 0) = (a :: L).count (some v) + _
      rw [List.count_cons, List.count_cons]
      omega
theorem outs_one0 (v p : Nat) : ∀ (L : Lay) (k : Nat), (selF (fun i (_ : Option Nat) => !([p] : List Nat).contains i) (fun _ o => o) k L).count (some v) + (if k ≤ p ∧ L[p - k]? = some (some v) then 1 else 0) = L.count (some v)
  | [], k => by simp [selF]
  | a :: L, k => by
    have ih := outs_one0 v p L (k + 1)
    show (if !([p] : List Nat).contains k then a :: selF (fun i (_ : Option Nat) => !([p] : List Nat).contains i) (fun _ o => o) (k + 1) L else selF (fun i (_ : Option Nat) => !([p] : List Nat).contains i) (fun _ o => o) (k + 1) L).count (some v) + _ = _
    by_cases h : k = p
    · subst h
      have e : ([k] : List Nat).contains k = true := by simp
      rw [e]
      rw [if_neg (fun z => by have := z.1; omega)] at ih
      simp only [Bool.not_true, Bool.false_eq_true, if_false, Nat.sub_self]
      rw [List.count_cons]
      simp only [List.getElem?_cons_zero, Option.some.injEq, Nat.le_refl, true_and, beq_iff_eq]
      omega
    · have e : ([p] : List Nat).contains k = false := by simpa using h
      rw [e]
      simp only [Bool.not_false, if_true]
      rw [List.count_cons, List.count_cons]
      by_cases h2 : k + 1 ≤ p
      · have e2 : p - k = (p - (k + 1)) + 1 := by omega
        rw [e2, List.getElem?_cons_succ]
        have e3 : (k ≤ p ∧ L[p - (k + 1)]? = some (some v)) ↔ (k + 1 ≤ p ∧ L[p - (k + 1)]? = some (some v)) := by
          constructor
          · exact fun h => ⟨h2, h.2⟩
          · exact fun h => ⟨by omega, h.2⟩
        simp only [e3]
        omega
      · rw [if_neg (fun z => h2 z.1)] at ih
        have e5 : ¬ (k ≤ p ∧ (a :: L)[p - k]? = some (some v)) := fun z => by have := z.1; omega
        rw [if_neg e5]
        omega
theorem outs_one {L : Lay} {p : Nat} (v : Nat) : cn (outs L [p]) v + (if L.getD p none = some v then 1 else 0) = cn L v := by
  have h := outs_one0 v p L 0
  have e : (0 ≤ p ∧ L[p - 0]? = some (some v)) ↔ L.getD p none = some v := by rw [getD_some, Nat.sub_zero]; exact ⟨fun h => h.2, fun h => ⟨Nat.zero_le _, h⟩⟩
  simp only [e] at h
  exact h
/-- a place may be written: it is empty, or its value has room -/
def RoomAt (ns : List Nat) (L : Lay) (p : Nat) : Prop := p < L.length ∧ ∀ v, L.getD p none = some v → ns.getD v 0 < cn L v
theorem rms_at {ns : List Nat} {L : Lay} {v : Nat} (h : v < ns.length) : (rms ns L).getD v 0 = ((cn L v : Nat) : Int) - ((ns.getD v 0 : Nat) : Int) := by
  rw [List.getD_eq_getElem?_getD, rms, List.getElem?_map, List.getElem?_range h]
  rfl
theorem mem_room {ns : List Nat} {L : Lay} (hr : ∀ v, some v ∈ L → v < ns.length) {p : Nat} : p ∈ wRoom ns L ↔ RoomAt ns L p := by
  rw [wRoom, mem_pos]
  constructor
  · rintro ⟨o, h1, h2⟩
    refine ⟨(List.getElem?_eq_some_iff.mp h1).1, fun v hv => ?_⟩
    rw [getD_some, h1] at hv
    cases hv
    have h3 := of_decide_eq_true h2
    rw [rms_at (hr v (List.mem_of_getElem? h1))] at h3
    omega
  · rintro ⟨h1, h2⟩
    refine ⟨L[p], List.getElem?_eq_getElem h1, ?_⟩
    cases h : L[p] with
    | none => rfl
    | some v =>
      have h3 : L[p]? = some (some v) := by rw [List.getElem?_eq_getElem h1, h]
      have := h2 v (getD_some.mpr h3)
      refine decide_eq_true ?_
      rw [rms_at (hr v (List.mem_of_getElem? h3))]
      omega
theorem mem_wrong {W L : Lay} {i : Nat} : i ∈ wrong W L ↔ ∃ v, W[i]? = some (some v) ∧ L.getD i none ≠ some v := by
  rw [wrong, mem_pos]
  constructor
  · rintro ⟨o, h1, h2⟩
    cases o with
    | none => cases h2
    | some v =>
      refine ⟨v, h1, fun h => ?_⟩
      rw [h] at h2
      simp at h2
  · rintro ⟨v, h1, h2⟩
    refine ⟨some v, h1, ?_⟩
    show (!decide (it (some v) = it (L.getD i none))) = true
    rw [decide_eq_false (fun h => h2 (it_inj.mp h).symm)]
    rfl
theorem led_one (L : Lay) (p s : Nat) : ledS L [(p, s)] = L.set p (L.getD s none) := rfl
/-- one copy to a place with room -/
theorem good_one {ns : List Nat} {L : Lay} {p s : Nat} (r : Right ns L) (hp : RoomAt ns L p) (hs : s < L.length) (hne : s ≠ p) (hf : L.getD s none ≠ none) : GoodS ns L [(p, s)] := by
  refine ⟨by simp, by simp [plc], fun q hq => ?_, fun q hq => ?_, fun q hq => ?_, fun v n hv => ?_⟩
  · rw [List.mem_singleton.mp hq]; exact ⟨hp.1, hs⟩
  · rw [List.mem_singleton.mp hq]; simpa [plc] using hne
  · rw [List.mem_singleton.mp hq]; exact hf
  · have h1 := outs_one (L := L) (p := p) v
    have h2 := r.many v n hv
    show n ≤ cn (outs L [p]) v
    by_cases h : L.getD p none = some v
    · have h3 := hp.2 v h
      rw [List.getD_eq_getElem?_getD, hv] at h3
      rw [if_pos h] at h1
      simp at h3
      omega
    · rw [if_neg h] at h1
      omega
/-- a source of a wanted value -/
theorem src_ex {T : Task} (g : GoodT T) {L : Lay} (r : Right T.ns L) {p v : Nat} (hw : T.wish[p]? = some (some v)) (hl : L.getD p none ≠ some v) : ∃ s, L[s]? = some (some v) ∧ s ≠ p := by
  have hv := g.wish.val v (List.mem_of_getElem? hw)
  have h1 := r.many v T.ns[v] (List.getElem?_eq_getElem hv)
  have h2 := g.pos T.ns[v] (List.getElem_mem hv)
  have h3 : some v ∈ L := List.count_pos_iff.mp (show 0 < cn L v by omega)
  obtain ⟨s, hs⟩ := List.mem_iff_getElem?.mp h3
  exact ⟨s, hs, fun z => by subst z; exact hl (getD_some.mpr hs)⟩
/-! ### counting the wrong places -/
def bad (q : Option Nat × Option Nat) : Bool := match q.1 with
  | none => false
  | some v => !decide (some v = q.2)
theorem wrong_len0 (p : Nat → Option Nat → Bool) : ∀ (W L : Lay) (k : Nat), W.length = L.length → (∀ i w l, W[i]? = some w → L[i]? = some l → p (k + i) w = bad (w, l)) → (selF p (fun i _ => i) k W).length = (W.zip L).countP bad
  | [], [], _, _, _ => rfl
  | [], _ :: _, _, h, _ => by simp at h
  | _ :: _, [], _, h, _ => by simp at h
  | w :: W, l :: L, k, h, hp => by
    have ih := wrong_len0 p W L (k + 1) (by simpa using h) fun i a b h1 h2 => by
      have := hp (i + 1) a b (by simpa using h1) (by simpa using h2)
      rwa [show k + (i + 1) = k + 1 + i by omega] at this
    have h0 := hp 0 w l rfl rfl
    rw [Nat.add_zero] at h0
    show (if p k w then k :: selF p (fun i _ => i) (k + 1) W else selF p (fun i _ => i) (k + 1) W).length = _
    rw [List.zip_cons_cons, List.countP_cons, ← ih, h0]
    by_cases hb : bad (w, l) = true
    · rw [if_pos hb, if_pos hb]; rfl
    · rw [if_neg hb, if_neg hb]; rfl
theorem wrong_len {W L : Lay} (h : W.length = L.length) : (wrong W L).length = (W.zip L).countP bad := by
  refine wrong_len0 _ W L 0 h fun i w l h1 h2 => ?_
  rw [Nat.zero_add]
  cases w with
  | none => rfl
  | some v =>
    show (!decide (it (some v) = it (L.getD i none))) = !decide (some v = l)
    rw [List.getD_eq_getElem?_getD, h2]
    congr 1
    exact decide_eq_decide.mpr it_inj
theorem zip_set {α β : Type} : ∀ (W : List α) (L : List β) (p : Nat) (x : β) (w : α), W[p]? = some w → W.zip (L.set p x) = (W.zip L).set p (w, x)
  | [], _, _, _, _, h => by simp at h
  | _ :: _, [], _, _, _, _ => by simp
  | a :: W, b :: L, 0, x, w, h => by simp at h; subst h; rfl
  | a :: W, b :: L, p + 1, x, w, h => by
    show (a, b) :: W.zip (L.set p x) = (a, b) :: (W.zip L).set p (w, x)
    rw [zip_set W L p x w (by simpa using h)]
theorem cntP_set {α : Type} {f : α → Bool} : ∀ {l : List α} {p : Nat} {x y : α}, l[p]? = some x → (l.set p y).countP f + (if f x = true then 1 else 0) = l.countP f + (if f y = true then 1 else 0)
  | [], _, _, _, h => by simp at h
  | a :: l, 0, x, y, h => by
    simp at h; subst h
    show (y :: l).countP f + _ = (a :: l).countP f + _
    rw [List.countP_cons, List.countP_cons]
    omega
  | a :: l, p + 1, x, y, h => by
    have ih := cntP_set (f := f) (l := l) (p := p) (x := x) (y := y) (by simpa using h)
    show (a :: l.set p y).countP f + _ = (a :: l).countP f + _
    rw [List.countP_cons, List.countP_cons]
    omega
theorem wrong_set {W L : Lay} {p : Nat} {w l x : Option Nat} (h : W.length = L.length) (hw : W[p]? = some w) (hl : L[p]? = some l) :
    (wrong W (L.set p x)).length + (if bad (w, l) = true then 1 else 0) = (wrong W L).length + (if bad (w, x) = true then 1 else 0) := by
  rw [wrong_len h, wrong_len (by rw [List.length_set]; exact h), zip_set W L p x w hw]
  exact cntP_set (by rw [List.getElem?_zip_eq_some]; exact ⟨hw, hl⟩)
/-- fewer of each, as many in all: as many of each -/
theorem cnt_all {α : Type} [BEq α] [LawfulBEq α] : ∀ (B A : List α), (∀ v, B.count v ≤ A.count v) → B.length ≤ A.length ∧ (A.length ≤ B.length → ∀ v, B.count v = A.count v)
  | [], A, _ => ⟨Nat.zero_le _, fun h => by
    have : A = [] := List.length_eq_zero_iff.mp (by simpa using h)
    subst this
    intro v; rfl⟩
  | b :: B, A, h => by
    have hb : b ∈ A := List.count_pos_iff.mp (by have := h b; rw [List.count_cons_self] at this; omega)
    have hp := List.perm_cons_erase hb
    have h2 : ∀ v, B.count v ≤ (A.erase b).count v := fun v => by
      have := h v
      rw [hp.count_eq v, List.count_cons, List.count_cons] at this
      omega
    obtain ⟨h3, h4⟩ := cnt_all B (A.erase b) h2
    have hl := hp.length_eq
    rw [List.length_cons] at hl
    refine ⟨by rw [List.length_cons]; omega, fun hle v => ?_⟩
    have := h4 (by rw [List.length_cons] at hle; omega) v
    rw [hp.count_eq v, List.count_cons, List.count_cons, this]
theorem cnt_bal (v : Nat) : ∀ (W L : Lay), W.length = L.length →
    W.count (some v) + (((W.zip L).filter bad).map (·.2)).count (some v) + (W.zip L).countP (fun q => decide (q.1 = none ∧ q.2 = some v)) = L.count (some v) + (((W.zip L).filter bad).map (·.1)).count (some v)
  | [], [], _ => rfl
  | [], _ :: _, h => by simp at h
  | _ :: _, [], h => by simp at h
  | w :: W, l :: L, h => by
    have ih := cnt_bal v W L (by simpa using h)
    rw [List.zip_cons_cons, List.countP_cons]
    cases w with
    | none =>
      rw [List.filter_cons_of_neg (show ¬ bad (none, l) = true by simp [bad]), List.count_cons, List.count_cons]
      by_cases hl : l = some v
      · subst hl
        simp at ih ⊢
        omega
      · simp [hl] at ih ⊢
        omega
    | some u =>
      by_cases hb : some u = l
      · have hb' : ¬ bad (some u, l) = true := by unfold bad; simp [hb]
        rw [List.filter_cons_of_neg hb', List.count_cons, List.count_cons, ← hb]
        simp at ih ⊢
        omega
      · have hb' : bad (some u, l) = true := by unfold bad; simp [hb]
        rw [List.filter_cons_of_pos hb', List.map_cons, List.map_cons, List.count_cons, List.count_cons, List.count_cons, List.count_cons]
        simp at ih ⊢
        omega
/-! ### the measure -/
def mu (ns : List Nat) (W L : Lay) : Nat := 2 * (wrong W L).length + (if (wrong W L).any fun i => (wRoom ns L).contains i then 0 else 1)
theorem mu_le (ns : List Nat) (W L : Lay) : mu ns W L ≤ 2 * (wrong W L).length + 1 := by unfold mu; split <;> omega
theorem bad_self (v : Option Nat) : bad (v, v) = false := by cases v <;> simp [bad]
/-- a copy to a wrong place with room brings one place home -/
theorem mu_good {ns : List Nat} {W L : Lay} {p s v : Nat} (hl : W.length = L.length) (hw : W[p]? = some (some v)) (hn : L.getD p none ≠ some v) (hs : L[s]? = some (some v)) :
    mu ns W (ledS L [(p, s)]) < 2 * (wrong W L).length := by
  have hp : p < L.length := by rw [← hl]; exact (List.getElem?_eq_some_iff.mp hw).1
  have h1 := wrong_set (x := L.getD s none) hl hw (List.getElem?_eq_getElem hp)
  have e1 : L.getD s none = some v := getD_some.mpr hs
  have e2 : L.getD p none = L[p] := by rw [List.getD_eq_getElem?_getD, List.getElem?_eq_getElem hp]; rfl
  have hb : bad (some v, L[p]) = true := by
    show (!decide (some v = L[p])) = true
    rw [← e2, decide_eq_false (Ne.symm hn)]; rfl
  rw [e1, if_pos hb, if_neg (by rw [bad_self]; decide)] at h1
  have h2 := mu_le ns W (ledS L [(p, s)])
  rw [led_one, e1] at *
  omega
theorem getD_get {L : Lay} {i : Nat} (h : i < L.length) : L[i]? = some (L.getD i none) := by
  rw [List.getD_eq_getElem?_getD, List.getElem?_eq_getElem h]; rfl
theorem bad_iff {w l : Option Nat} : bad (w, l) = true ↔ ∃ v, w = some v ∧ l ≠ some v := by
  cases w with
  | none => simp [bad]
  | some v =>
    show (!decide (some v = l)) = true ↔ _
    constructor
    · intro h
      refine ⟨v, rfl, fun z => ?_⟩
      rw [z] at h; simp at h
    · rintro ⟨u, e, h⟩
      cases e
      rw [decide_eq_false (Ne.symm h)]; rfl
theorem mu_stuck {ns : List Nat} {W L : Lay} (hr : ∀ v, some v ∈ L → v < ns.length) (h : ∀ i ∈ wrong W L, ¬ RoomAt ns L i) : mu ns W L = 2 * (wrong W L).length + 1 := by
  unfold mu
  rw [if_neg]
  intro h2
  obtain ⟨i, h3, h4⟩ := List.any_eq_true.mp h2
  exact h i h3 ((mem_room hr).mp (List.contains_iff_mem.mp h4))
theorem mu_free {ns : List Nat} {W L : Lay} (hr : ∀ v, some v ∈ L → v < ns.length) {i : Nat} (h : i ∈ wrong W L) (h2 : RoomAt ns L i) : mu ns W L = 2 * (wrong W L).length := by
  unfold mu
  rw [if_pos (List.any_eq_true.mpr ⟨i, h, List.contains_iff_mem.mpr ((mem_room hr).mpr h2)⟩)]
  rfl
theorem mu_aside {T : Task} (g : GoodT T) {L : Lay} (r : Right T.ns L) (hl : T.wish.length = L.length) (hst : ∀ i ∈ wrong T.wish L, ¬ RoomAt T.ns L i) {a p s v : Nat} (ha : RoomAt T.ns L a)
    (hfree : T.wish[a]? ≠ some none → ∀ i, RoomAt T.ns L i → T.wish[i]? ≠ some none) (hp : T.wish[p]? = some (some v)) (hpl : L.getD p none ≠ some v) (hs : (ledS L [(a, p)])[s]? = some (some v)) :
    mu T.ns T.wish (ledS (ledS L [(a, p)]) [(p, s)]) < mu T.ns T.wish L := by
  have hpw : p ∈ wrong T.wish L := mem_wrong.mpr ⟨v, hp, hpl⟩
  have haw : a ∉ wrong T.wish L := fun z => hst a z ha
  have hap : a ≠ p := fun z => haw (z ▸ hpw)
  have hplt : p < L.length := by rw [← hl]; exact (List.getElem?_eq_some_iff.mp hp).1
  have halt := ha.1
  obtain ⟨wa, hwa⟩ : ∃ wa, T.wish[a]? = some wa := ⟨_, List.getElem?_eq_getElem (by rw [hl]; exact halt)⟩
  rw [mu_stuck r.val hst]
  have w1 := wrong_set (x := L.getD p none) hl hwa (getD_get halt)
  have hba : ¬ bad (wa, L.getD a none) = true := fun z => by
    obtain ⟨u, rfl, h2⟩ := bad_iff.mp z
    exact haw (mem_wrong.mpr ⟨u, hwa, h2⟩)
  rw [if_neg hba] at w1
  have e1 : ledS L [(a, p)] = L.set a (L.getD p none) := rfl
  generalize hL1 : ledS L [(a, p)] = L1 at *
  have l1 : L1.length = L.length := by rw [e1, List.length_set]
  have e1p : L1.getD p none = L.getD p none := by
    rw [e1, List.getD_eq_getElem?_getD, List.getD_eq_getElem?_getD, List.getElem?_set_ne hap]
  have es : L1.getD s none = some v := getD_some.mpr hs
  have e2 : ledS L1 [(p, s)] = L1.set p (some v) := by rw [led_one, es]
  have w2 := wrong_set (x := some v) (hl.trans l1.symm) hp (getD_get (L := L1) (by rw [l1]; exact hplt))
  rw [if_pos (bad_iff.mpr ⟨v, rfl, by rw [e1p]; exact hpl⟩), if_neg (by rw [bad_self]; decide)] at w2
  rw [← e1] at w1
  rw [e2]
  have hle := mu_le T.ns T.wish (L1.set p (some v))
  cases wa with
  | none =>
    have : ¬ bad (none, L.getD p none) = true := by simp [bad]
    rw [if_neg this] at w1
    omega
  | some u =>
    have w1' : (wrong T.wish L1).length ≤ (wrong T.wish L).length + 1 := by
      have : (if bad (some u, L.getD p none) = true then 1 else 0) ≤ 1 := by split <;> omega
      omega
    -- as many of each value go out as come in
    have hB : ∀ x : Option Nat, (((T.wish.zip L).filter bad).map (·.2)).count x ≤ (((T.wish.zip L).filter bad).map (·.1)).count x := by
      intro x
      have zero : (∀ i, i ∈ wrong T.wish L → L[i]? ≠ some x) → (((T.wish.zip L).filter bad).map (·.2)).count x = 0 := fun h => by
        refine List.count_eq_zero.mpr fun hm => ?_
        obtain ⟨⟨w', l'⟩, h1, h2⟩ := List.mem_map.mp hm
        obtain ⟨h3, h4⟩ := List.mem_filter.mp h1
        obtain ⟨i, hi⟩ := List.mem_iff_getElem?.mp h3
        obtain ⟨h5, h6⟩ := List.getElem?_zip_eq_some.mp hi
        obtain ⟨v', rfl, h7⟩ := bad_iff.mp h4
        dsimp only at h2 h5 h6
        subst h2
        refine h i (mem_wrong.mpr ⟨v', h5, ?_⟩) h6
        rw [List.getD_eq_getElem?_getD, h6]
        exact h7
      cases x with
      | none =>
        rw [zero]
        · exact Nat.zero_le _
        · intro i hi h
          refine hst i hi ⟨(List.getElem?_eq_some_iff.mp h).1, fun v' hv' => ?_⟩
          rw [getD_some, h] at hv'
          cases hv'
      | some y =>
        by_cases hy : ∃ i, i ∈ wrong T.wish L ∧ L[i]? = some (some y)
        · obtain ⟨i, hi, hiy⟩ := hy
          have hyn := r.val y (List.mem_of_getElem? hiy)
          have h1 : ¬ T.ns.getD y 0 < cn L y := fun z => hst i hi ⟨(List.getElem?_eq_some_iff.mp hiy).1, fun v' hv' => by rw [getD_some, hiy] at hv'; cases hv'; exact z⟩
          have h2 := g.wish.many y T.ns[y] (List.getElem?_eq_getElem hyn)
          rw [List.getD_eq_getElem?_getD, List.getElem?_eq_getElem hyn] at h1
          have h3 := cnt_bal y T.wish L hl
          simp only [Option.getD_some] at h1
          have h4 : cn L y = List.count (some y) L := rfl
          have h5 : cn T.wish y = List.count (some y) T.wish := rfl
          omega
        · rw [zero]
          · exact Nat.zero_le _
          · exact fun i hi h => hy ⟨i, hi, h⟩
    have hE := (cnt_all _ _ hB).2 (by simp) (some v)
    have hA : 0 < (((T.wish.zip L).filter bad).map (·.1)).count (some v) := by
      refine List.count_pos_iff.mpr (List.mem_map.mpr ⟨(some v, L.getD p none), List.mem_filter.mpr ⟨?_, bad_iff.mpr ⟨v, rfl, hpl⟩⟩, rfl⟩)
      exact List.mem_of_getElem? (List.getElem?_zip_eq_some.mpr ⟨hp, getD_get hplt⟩)
    rw [← hE] at hA
    obtain ⟨⟨w', l'⟩, h1, h2⟩ := List.mem_map.mp (List.count_pos_iff.mp hA)
    obtain ⟨h3, h4⟩ := List.mem_filter.mp h1
    obtain ⟨q, hq⟩ := List.mem_iff_getElem?.mp h3
    obtain ⟨h5, h6⟩ := List.getElem?_zip_eq_some.mp hq
    obtain ⟨v', rfl, h7⟩ := bad_iff.mp h4
    dsimp only at h2 h5 h6
    subst h2
    have hqw : q ∈ wrong T.wish L := mem_wrong.mpr ⟨v', h5, by rw [List.getD_eq_getElem?_getD, h6]; exact h7⟩
    have hqp : q ≠ p := fun z => hpl (by rw [← z, getD_some]; exact h6)
    have hqa : q ≠ a := fun z => haw (z ▸ hqw)
    have hvn := r.val v (List.mem_of_getElem? h6)
    have hq2 : (L1.set p (some v))[q]? = some (some v) := by rw [List.getElem?_set_ne (Ne.symm hqp), e1, List.getElem?_set_ne (Ne.symm hqa)]; exact h6
    have hLa : L.getD a none ≠ some v := fun z => hst q hqw ⟨(List.getElem?_eq_some_iff.mp h6).1, fun v2 hv2 => by rw [getD_some, h6] at hv2; cases hv2; exact ha.2 v z⟩
    have c1 := cn_set (x := L.getD p none) v halt
    rw [if_neg hLa, if_neg hpl, ← e1] at c1
    have c2 := cn_set (L := L1) (x := some v) v (by rw [l1]; exact hplt)
    rw [e1p, if_neg hpl, if_pos rfl] at c2
    have c3 := r.many v T.ns[v] (List.getElem?_eq_getElem hvn)
    have hroom : RoomAt T.ns (L1.set p (some v)) q := by
      refine ⟨(List.getElem?_eq_some_iff.mp hq2).1, fun v2 hv2 => ?_⟩
      rw [getD_some, hq2] at hv2
      cases hv2
      rw [List.getD_eq_getElem?_getD, List.getElem?_eq_getElem hvn]
      simp only [Option.getD_some]
      omega
    have hval : ∀ x, some x ∈ L1.set p (some v) → x < T.ns.length := by
      intro x hx
      rcases List.mem_or_eq_of_mem_set hx with hx | hx
      · rw [e1] at hx
        rcases List.mem_or_eq_of_mem_set hx with hx | hx
        · exact r.val x hx
        · exact r.val x (List.mem_of_getElem? (getD_some.mp hx.symm))
      · cases hx; exact hvn
    rw [mu_free hval (mem_wrong.mpr ⟨v', h5, by rw [List.getD_eq_getElem?_getD, hq2]; exact h7⟩) hroom]
    omega
theorem aside_good {ns : List Nat} {L : Lay} (r : Right ns L) {a p s v : Nat} (ha : RoomAt ns L a) (hp : ¬ RoomAt ns L p) (hpl : p < L.length) (hs : (ledS L [(a, p)])[s]? = some (some v)) (hsp : s ≠ p) :
    GoodS ns L [(a, p)] ∧ GoodS ns (ledS L [(a, p)]) [(p, s)] := by
  have hap : a ≠ p := fun z => hp (z ▸ ha)
  have hw : ∃ w, L.getD p none = some w ∧ ¬ ns.getD w 0 < cn L w := by
    refine Classical.byContradiction fun h => hp ⟨hpl, fun w hw => Classical.byContradiction fun h2 => h ⟨w, hw, h2⟩⟩
  obtain ⟨w, hw, hw2⟩ := hw
  have g1 : GoodS ns L [(a, p)] := good_one r ha hpl (Ne.symm hap) (by rw [hw]; simp)
  have r1 := right_led r g1
  have e1 : ledS L [(a, p)] = L.set a (L.getD p none) := rfl
  refine ⟨g1, good_one r1 ⟨by rw [e1, List.length_set]; exact hpl, fun w' hw' => ?_⟩ ?_ hsp (by rw [getD_some.mpr hs]; simp)⟩
  · have e2 : (ledS L [(a, p)]).getD p none = some w := by
      rw [e1, List.getD_eq_getElem?_getD, List.getElem?_set_ne hap, ← List.getD_eq_getElem?_getD, hw]
    rw [e2] at hw'
    cases hw'
    have hLa : L.getD a none ≠ some w := fun z => hw2 (ha.2 w z)
    have c1 := cn_set (x := L.getD p none) w ha.1
    rw [if_neg hLa, if_pos hw, ← e1] at c1
    have hwn := r.val w (List.mem_of_getElem? (getD_some.mp hw))
    have := r.many w ns[w] (List.getElem?_eq_getElem hwn)
    rw [List.getD_eq_getElem?_getD, List.getElem?_eq_getElem hwn]
    simp only [Option.getD_some]
    omega
  · exact (List.getElem?_eq_some_iff.mp hs).1
def NC (T : Task) (L : Lay) (S : Stretch) : Prop := S = [] ∨ (∃ p s, S = [(p, s)] ∧ GoodS T.ns L [(p, s)] ∧ mu T.ns T.wish (ledS L [(p, s)]) < mu T.ns T.wish L) ∨
  ∃ a p s, S = [(a, p), (p, s)] ∧ GoodS T.ns L [(a, p)] ∧ GoodS T.ns (ledS L [(a, p)]) [(p, s)] ∧ mu T.ns T.wish (ledS (ledS L [(a, p)]) [(p, s)]) < mu T.ns T.wish L
def pNext (K : PySem.W.Frag) (x y z : V) (H : Hp) (Q : VK) : Prop := ∃ b T L, x = .ref b ∧ Bag H b ∧ TkT K H y T ∧ LyT K H z L ∧ GoodT T ∧ Right T.ns L ∧ L.length = T.old.length ∧ L.length ≤ 100 ∧ T.ns.length ≤ 1000 ∧ wrong T.wish L ≠ [] ∧
  ∀ H' c xs S, Same H H' → H c = none → H' c = some (.lst xs) → Prs K H' xs S → NC T L S → Q (.ref c) H'
/-! ### plans joined -/
theorem asc_len : ∀ {l : List Nat} {k n : Nat}, l.Pairwise (· < ·) → (∀ x ∈ l, k ≤ x ∧ x < n) → l.length ≤ n - k
  | [], _, _, _, _ => Nat.zero_le _
  | x :: l, k, n, h, hb => by
    obtain ⟨h1, h2⟩ := List.pairwise_cons.mp h
    have h3 := hb x List.mem_cons_self
    have := asc_len (l := l) (k := x + 1) (n := n) h2 fun y hy => ⟨h1 y hy, (hb y (List.mem_cons_of_mem _ hy)).2⟩
    rw [List.length_cons]
    omega
theorem GoodS.len {ns : List Nat} {L : Lay} {S : Stretch} (g : GoodS ns L S) : S.length ≤ L.length := by
  have := asc_len (k := 0) (n := L.length) g.lot fun x hx => by
    obtain ⟨q, hq, rfl⟩ := List.mem_map.mp hx
    exact ⟨Nat.zero_le _, (g.low q hq).1⟩
  rw [List.length_map] at this
  omega
theorem goodP_app {ns : List Nat} : ∀ (A B : Plan) (L : Lay), GoodP ns L (A ++ B) ↔ GoodP ns L A ∧ GoodP ns (lastL L A) B
  | [], B, L => by
    show GoodP ns L B ↔ True ∧ GoodP ns L B
    rw [true_and]
  | S :: A, B, L => by
    have ih := goodP_app (ns := ns) A B (ledS L S)
    show (GoodS ns L S ∧ GoodP ns (ledS L S) (A ++ B)) ↔ (GoodS ns L S ∧ GoodP ns (ledS L S) A) ∧ GoodP ns (lastL (ledS L S) A) B
    rw [ih, and_assoc]
theorem lastL_app : ∀ (A B : Plan) (L : Lay), lastL L (A ++ B) = lastL (lastL L A) B
  | [], _, _ => rfl
  | S :: A, B, L => lastL_app A B (ledS L S)
theorem join_ok {ns : List Nat} {B : Lay} {S1 S2 S' : Stretch} (g1 : GoodS ns B S1) (g2 : GoodS ns (ledS B S1) S2) (hp : S'.Perm (S1 ++ S2)) (hsrc : ∀ q ∈ S', q.2 ∉ plc S') (hnd : (plc S').Nodup)
    (hlt : (plc S').Pairwise (· < ·)) (hs : Safe ns B (plc S')) : GoodS ns B S' ∧ ledS B S' = ledS (ledS B S1) S2 := by
  have hm : ∀ q, q ∈ S' ↔ q ∈ S1 ∨ q ∈ S2 := fun q => by rw [hp.mem_iff, List.mem_append]
  have hm1 : ∀ i, i ∈ plc S1 → i ∈ plc S' := fun i hi => by
    obtain ⟨q, hq, rfl⟩ := List.mem_map.mp hi
    exact List.mem_map.mpr ⟨q, (hm q).mpr (.inl hq), rfl⟩
  have hm2 : ∀ i, i ∈ plc S2 → i ∈ plc S' := fun i hi => by
    obtain ⟨q, hq, rfl⟩ := List.mem_map.mp hi
    exact List.mem_map.mpr ⟨q, (hm q).mpr (.inr hq), rfl⟩
  have hl := ledS_len B S1
  have hout : ∀ q ∈ S', (ledS B S1)[q.2]? = B[q.2]? := fun q hq => ledS_out fun z => hsrc q hq (hm1 _ z)
  have hlow : ∀ q ∈ S', q.1 < B.length ∧ q.2 < B.length := fun q hq => by
    rcases (hm q).mp hq with h | h
    · exact g1.low q h
    · have := g2.low q h; rwa [hl] at this
  have hdis : ∀ i, i ∈ plc S1 → i ∉ plc S2 := by
    have h1 : (plc (S1 ++ S2)).Nodup := (hp.map (·.1)).nodup_iff.mp hnd
    unfold plc at h1
    rw [List.map_append, List.nodup_append] at h1
    exact fun i h2 h3 => h1.2.2 i h2 i h3 rfl
  refine ⟨⟨fun z => ?_, hlt, hlow, hsrc, fun q hq => ?_, hs⟩, ?_⟩
  · obtain ⟨x, hx⟩ := List.exists_mem_of_ne_nil _ g1.ne
    have := (hm x).mpr (.inl hx)
    rw [z] at this
    cases this
  · rcases (hm q).mp hq with h | h
    · exact g1.full q h
    · have h1 := g2.full q h
      rw [List.getD_eq_getElem?_getD, hout q hq, ← List.getD_eq_getElem?_getD] at h1
      exact h1
  · refine List.ext_getElem? fun i => ?_
    by_cases hi : i ∈ plc S'
    · obtain ⟨q, hq, rfl⟩ := List.mem_map.mp hi
      rw [ledS_in hnd hq (hlow q hq).1]
      rcases (hm q).mp hq with h | h
      · rw [ledS_out (hdis _ (List.mem_map.mpr ⟨q, h, rfl⟩)), ledS_in g1.nd h (hlow q hq).1]
      · rw [ledS_in g2.nd h (by rw [hl]; exact (hlow q hq).1), List.getD_eq_getElem?_getD, List.getD_eq_getElem?_getD, hout q hq]
    · rw [ledS_out hi, ledS_out (fun z => hi (hm2 i z)), ledS_out (fun z => hi (hm1 i z))]
abbrev sgl (S : Stretch) : Plan := S.map fun q => [q]
theorem sgl_nil : sgl [] = [] := rfl
theorem sgl_snoc (S : Stretch) (q : Nat × Nat) : sgl (S ++ [q]) = sgl S ++ [[q]] := List.map_append
theorem sgl_app (S S' : Stretch) : sgl (S ++ S') = sgl S ++ sgl S' := List.map_append
theorem sgl_len (S : Stretch) : (sgl S).length = S.length := List.length_map _
theorem NC.goodP {T : Task} {L : Lay} {S : Stretch} (h : NC T L S) : GoodP T.ns L (sgl S) := by
  rcases h with rfl | ⟨p, s, rfl, h, _⟩ | ⟨a, p, s, rfl, h1, h2, _⟩
  · exact trivial
  · exact ⟨h, trivial⟩
  · exact ⟨h1, h2, trivial⟩
theorem NC.mu {T : Task} {L : Lay} {S : Stretch} (h : NC T L S) (hne : S ≠ []) : mu T.ns T.wish (lastL L (sgl S)) < mu T.ns T.wish L ∧ S.length ≤ 2 := by
  rcases h with rfl | ⟨p, s, rfl, _, h⟩ | ⟨a, p, s, rfl, _, _, h⟩
  · exact absurd rfl hne
  · exact ⟨h, by show 1 ≤ 2; decide⟩
  · exact ⟨h, by show 2 ≤ 2; decide⟩
def pMade (K : PySem.W.Frag) (x y : V) (H : Hp) (Q : VK) : Prop := ∃ b T, x = .ref b ∧ Bag H b ∧ TkT K H y T ∧ GoodT T ∧ T.old.length ≤ 100 ∧ T.ns.length ≤ 1000 ∧
  ∀ H' v, Same H H' → (v = .non ∨ ∃ P, PlT K H' v P ∧ GoodP T.ns T.old P ∧ wrong T.wish (lastL T.old P) = [] ∧ P.length ≤ 1000) → Q v H'
def pJoin (K : PySem.W.Frag) (x y z : V) (H : Hp) (Q : VK) : Prop := ∃ b T P, x = .ref b ∧ Bag H b ∧ TkT K H y T ∧ PlT K H z P ∧ GoodP T.ns T.old P ∧ T.old.length ≤ 100 ∧ T.ns.length ≤ 1000 ∧ P.length ≤ 1000 ∧
  ∀ H' v P', Same H H' → PlT K H' v P' → GoodP T.ns T.old P' → lastL T.old P' = lastL T.old P → P'.length ≤ P.length → Q v H'
def pLays (K : PySem.W.Frag) (x y : V) (H : Hp) (Q : VK) : Prop := ∃ T P, TkT K H x T ∧ PlT K H y P ∧ GoodP T.ns T.old P ∧ T.old.length ≤ 100 ∧ P.length ≤ 1000 ∧
  ∀ H' p xs, Same H H' → H' p = some (.lst xs) → Paired (LyT K H') xs (lays T.old P) → Q (.ref p) H'
theorem lays_snoc (S : Stretch) : ∀ (P : Plan) (L : Lay), lays L (P ++ [S]) = lays L P ++ [ledS (lastL L P) S]
  | [], _ => rfl
  | T :: P, L => by
    show L :: lays (ledS L T) (P ++ [S]) = L :: lays (ledS L T) P ++ [ledS (lastL (ledS L T) P) S]
    rw [lays_snoc S P]; rfl
theorem lays_len : ∀ (P : Plan) (L : Lay), (lays L P).length = P.length + 1
  | [], _ => rfl
  | T :: P, L => by show (lays _ P).length + 1 = _; rw [lays_len P]; rfl
theorem lays_get : ∀ (P : Plan) (L : Lay) (i : Nat), i ≤ P.length → (lays L P)[i]? = some (lastL L (P.take i))
  | [], _, 0, _ => rfl
  | [], _, i + 1, h => by simp at h
  | T :: P, L, 0, _ => rfl
  | T :: P, L, i + 1, h => lays_get P (ledS L T) i (by simpa using h)
/-! ### a list changes: tuples stand -/
section
variable {K : PySem.W.Frag} {H : Hp} {p : Addr} {zs : List V} {o : HO}
theorem sqT_mut {c : Addr} {xs : List V} (hp : H p = some (.lst zs)) (h : SqT K H c xs) : SqT K (upd H p o) c xs := by
  rcases h with (h | ⟨o, h⟩) | h
  · exact .inl (.inl (by rw [upd_ne (ne_of h hp (by intro z; cases z))]; exact h))
  · exact .inl (.inr ⟨o, by rw [upd_ne (ne_of h hp (by intro z; cases z))]; exact h⟩)
  · exact .inr h
theorem prs_mut (hp : H p = some (.lst zs)) : ∀ {ys : List V} {S : Stretch}, Prs K H ys S → Prs K (upd H p o) ys S
  | _, _, .nil => .nil
  | _, _, .cons ⟨b, h1, h2⟩ t => .cons ⟨b, h1, by rw [upd_ne (ne_of h2 hp (by intro z; cases z))]; exact h2⟩ (prs_mut hp t)
theorem stT_mut {x : V} {S : Stretch} (hp : H p = some (.lst zs)) (h : StT K H x S) : StT K (upd H p o) x S := let ⟨c, xs, h1, h2, h3⟩ := h; ⟨c, xs, h1, sqT_mut hp h2, prs_mut hp h3⟩
theorem sts_mut (hp : H p = some (.lst zs)) : ∀ {ys : List V} {P : Plan}, Paired (StT K H) ys P → Paired (StT K (upd H p o)) ys P
  | _, _, .nil => .nil
  | _, _, .cons h t => .cons (stT_mut hp h) (sts_mut hp t)
theorem lyT_mut {x : V} {L : Lay} (hp : H p = some (.lst zs)) (h : LyT K H x L) : LyT K (upd H p o) x L := let ⟨c, h1, h2⟩ := h; ⟨c, h1, sqT_mut hp h2⟩
theorem lyF_mut {x : V} {L : Lay} (hp : H p = some (.lst zs)) (h : LyF K H x L) : LyF K (upd H p o) x L := let ⟨c, ob, h1, h2, h3⟩ := h; ⟨c, ob, h1, by rw [upd_ne (ne_of h2 hp (by intro z; cases z))]; exact h2, h3⟩
theorem lys_mut (hp : H p = some (.lst zs)) : ∀ {ys : List V} {P : List Lay}, Paired (LyT K H) ys P → Paired (LyT K (upd H p o)) ys P
  | _, _, .nil => .nil
  | _, _, .cons h t => .cons (lyT_mut hp h) (lys_mut hp t)
end
/-! ### pairs and stretches against nothing -/
abbrev pdP (q : Nat × Nat) : PyData := .tuple [.int (q.1 : Nat), .int (q.2 : Nat)]
abbrev pdS (S : Stretch) : PyData := .tuple (S.map pdP)
section
variable {K : PySem.W.Frag} {H : Hp}
theorem dpa_prs : ∀ {xs : List V} {S : Stretch}, Prs K H xs S → DpAll K H xs (S.map pdP)
  | _, _, .nil => .nil
  | _, _, .cons ⟨b, e, hb⟩ t => by subst e; exact .cons (.tup (SqT.of hb) (.cons (.int _) (.cons (.int _) .nil))) (dpa_prs t)
theorem ok_prs (S : Stretch) : ∀ d ∈ S.map pdP, okD 1 d := fun d hd => by
  obtain ⟨q', _, rfl⟩ := List.mem_map.mp hd
  exact okD_tup (n := 0) fun d hd => by
    rcases List.mem_cons.mp hd with rfl | hd
    · exact okD_int _ _
    · rw [List.mem_singleton.mp hd]; exact okD_int _ _
theorem dp_st {v : V} {S : Stretch} (h : StT K H v S) : Dp K H v (pdS S) := by
  obtain ⟨c, xs, rfl, h1, h2⟩ := h
  exact .tup h1 (dpa_prs h2)
theorem dpa_sts : ∀ {xs : List V} {P : Plan}, Paired (StT K H) xs P → DpAll K H xs (P.map pdS)
  | _, _, .nil => .nil
  | _, _, .cons h t => .cons (dp_st h) (dpa_sts t)
theorem ok_sts (P : Plan) : ∀ d ∈ P.map pdS, okD 2 d := fun d hd => by
  obtain ⟨S, _, rfl⟩ := List.mem_map.mp hd
  exact okD_tup (ok_prs S)
variable {D p : Addr} {xs : List V} {Q : VK}
theorem emp_pd {α β : Type} {F : α → β → Prop} {l : List α} {m : List β} (h : Paired F l m) : l.isEmpty = m.isEmpty := by cases h <;> rfl
theorem eqNilP {S : Stretch} (hS : SqL K H D xs) (hp : Prs K H xs S) (h0 : SqL K H p []) (q : Q (.bl S.isEmpty) H) : rEqA K (.ref D) (.ref p) H Q :=
  eqNilL hS (dpa_prs hp) (fun d hd => (ok_prs S d hd).mono (by decide)) h0 (by rw [emp_pd hp]; exact q)
theorem neNilPT {S : Stretch} (hS : SqT K H D xs) (hp : Prs K H xs S) (h0 : SqT K H p []) (q : Q (.bl (!S.isEmpty)) H) : rNeA K (.ref D) (.ref p) H Q :=
  neNilT hS (dpa_prs hp) (fun d hd => (ok_prs S d hd).mono (by decide)) h0 (by rw [emp_pd hp]; exact q)
theorem neNilPl {P : Plan} (hS : SqL K H D xs) (hp : Paired (StT K H) xs P) (h0 : SqL K H p []) (q : Q (.bl (!P.isEmpty)) H) : rNeA K (.ref D) (.ref p) H Q :=
  neNilL hS (dpa_sts hp) (fun d hd => (ok_sts P d hd).mono (by decide)) h0 (by rw [emp_pd hp]; exact q)
end
end Wm
set_option Elab.async false
set_option linter.all false
set_option maxRecDepth 100000
set_option maxHeartbeats 4000000
/-! plain: tasks drawn; promises -/
namespace Wm
open PySem PySem.Spec PyProof.Rows L2
theorem lcRl {J : It} {n : Nat} {G : Hp → Prop} {Y : Nat → Hp → V → Hp → Prop} (w : Walk J n G Y) {g : TG} {tt : TT} {te : TE} {vs : List Nat} {σ : L2.St} {Q : VK} {H1 : Hp} (f : Nat → Bool) (R : Nat → V → Prop)
    (hG : ∀ H', Same H1 H' → G H') (hn : n ≤ 100000)
    (hs : ∀ i x H' H'', i < n → Same H1 H' → Y i H' x H'' → ∀ (Z : VK) (N : Hp → Prop), (∀ y H4, f i = true → Same H' H4 → R i y → Z y H4) → (∀ H4, f i = false → Same H' H4 → N H4) →
      g x (wipe σ vs) H'' fun σ2 H2 => wipe σ2 vs = wipe σ vs ∧ tt σ2 H2 fun b H3 => if b = true then te σ2 H3 Z else N H3)
    (hd : ∀ D H' ys, H1 D = none → Same H1 H' → H' D = some (.lst ys) → Paired R ((List.range n).filter f) ys → Q (.ref D) H') : LcG J g tt te vs σ H1 Q := comp_rule w f R hG hn hs hd
theorem mpRl {J : It} {n : Nat} {G : Hp → Prop} {Y : Nat → Hp → V → Hp → Prop} (w : Walk J n G Y) {g : TG} {te : TE} {vs : List Nat} {σ : L2.St} {Q : VK} {H1 : Hp} (R : Nat → V → Prop)
    (hG : ∀ H', Same H1 H' → G H') (hn : n ≤ 100000)
    (hs : ∀ i x H' H'', i < n → Same H1 H' → Y i H' x H'' → ∀ Z : VK, (∀ y H4, Same H' H4 → R i y → Z y H4) → g x (wipe σ vs) H'' fun σ2 H2 => wipe σ2 vs = wipe σ vs ∧ te σ2 H2 Z)
    (hd : ∀ D H' ys, H1 D = none → Same H1 H' → H' D = some (.lst ys) → Paired R (List.range n) ys → Q (.ref D) H') : LcG J g tYes te vs σ H1 Q := by
  refine lcRl w (fun _ => true) R hG hn (fun i x H' H'' hi e y Z N hz _ => ?_) fun D H' ys hD e h hp => hd D H' ys hD e h (by rw [flt_t] at hp; exact hp)
  have e2 : (fun (σ2 : L2.St) (H2 : Hp) => wipe σ2 vs = wipe σ vs ∧ tYes σ2 H2 fun b H3 => if b = true then te σ2 H3 Z else N H3) = fun σ2 H2 => wipe σ2 vs = wipe σ vs ∧ te σ2 H2 Z := by
    funext σ2 H2
    show (wipe σ2 vs = wipe σ vs ∧ if true = true then te σ2 H2 Z else N H2) = _
    rw [if_pos rfl]
  rw [e2]
  exact hs i x H' H'' hi e y Z fun y H4 => hz y H4 rfl
theorem rgV_nt (n : Nat) : rgV 0 (n : Int) = (List.range n).map nt := by
  unfold rgV
  rw [show ((n : Int) - 0).toNat = n by omega]
  refine List.map_congr_left fun i _ => ?_
  show V.int (0 + (i : Int)) = V.int (i : Int)
  rw [Int.zero_add]
def unit : V → Option Nat
  | .int i => some i.toNat
  | _ => none
theorem unit_it (o : Option Nat) : unit (it o) = o := by cases o <;> simp [unit, it]
theorem perm_map {F : Lay} {ys : List V} (h : ys.Perm (F.map it)) : ∃ F' : Lay, ys = F'.map it ∧ F'.Perm F := by
  refine ⟨ys.map unit, ?_, ?_⟩
  · rw [List.map_map]
    have : ∀ y ∈ ys, (it ∘ unit) y = y := fun y hy => by
      obtain ⟨o, _, rfl⟩ := List.mem_map.mp (h.mem_iff.mp hy)
      show it (unit (it o)) = it o
      rw [unit_it]
    rw [List.map_congr_left this, List.map_id']
  · have := h.map unit
    rw [List.map_map] at this
    have e : F.map (unit ∘ it) = F := by
      have h2 : ∀ o ∈ F, (unit ∘ it) o = id o := fun o _ => unit_it o
      rw [List.map_congr_left h2, List.map_id]
    rwa [e] at this
theorem perm_nts {P : List Nat} {ys : List V} (h : ys.Perm (P.map nt)) : ∃ P' : List Nat, ys = P'.map nt ∧ P'.Perm P := by
  refine ⟨ys.map fun y => (unit y).getD 0, ?_, ?_⟩
  · rw [List.map_map]
    have : ∀ y ∈ ys, (nt ∘ fun y => (unit y).getD 0) y = y := fun y hy => by
      obtain ⟨o, _, rfl⟩ := List.mem_map.mp (h.mem_iff.mp hy)
      show nt ((some ((o : Int).toNat)).getD 0) = nt o
      simp
    rw [List.map_congr_left this, List.map_id']
  · have := h.map fun y => (unit y).getD 0
    rw [List.map_map] at this
    have e : P.map ((fun y => (unit y).getD 0) ∘ nt) = P := by
      have h2 : ∀ o ∈ P, ((fun y => (unit y).getD 0) ∘ nt) o = id o := fun o _ => by show (some ((o : Int).toNat)).getD 0 = o; simp
      rw [List.map_congr_left h2, List.map_id]
    rwa [e] at this
theorem right_perm {ns : List Nat} {L L' : Lay} (h : Right ns L) (p : L'.Perm L) : Right ns L' :=
  ⟨fun v hv => h.val v (p.mem_iff.mp hv), fun v n hv => by show n ≤ L'.count (some v); rw [p.count_eq]; exact h.many v n hv⟩
theorem range_map (L : Lay) : (List.range L.length).map (fun i => L.getD i none) = L := by
  refine List.ext_getElem? fun i => ?_
  rw [List.getElem?_map]
  by_cases h : i < L.length
  · rw [List.getElem?_range h, getD_get h]; rfl
  · rw [List.getElem?_eq_none (by simpa using h), List.getElem?_eq_none (by simpa using h)]; rfl
theorem order_perm {L : Lay} {o : List Nat} (h : o.Perm (List.range L.length)) : (o.map fun i => L.getD i none).Perm L := by
  have := h.map fun i => L.getD i none
  rwa [range_map] at this
theorem fdiv2 (n : Nat) : Int.fdiv (n : Int) 2 = ((n / 2 : Nat) : Int) := by
  rw [Int.fdiv_eq_ediv_of_nonneg _ (by decide)]
  rfl
theorem cut_last (xs : List V) : cutV xs none (some (-1)) = xs.take (xs.length - 1) := by
  unfold cutV
  have e : HT.sIx xs.length xs.length (some (-1)) = xs.length - 1 := by
    show (if (-1 : Int) < 0 then ((-1 : Int) + (xs.length : Int)).toNat else min (-1 : Int).toNat xs.length) = _
    rw [if_pos (show (-1 : Int) < 0 by decide)]
    omega
  rw [e, HT.sIx_none, List.drop_zero, Nat.sub_zero]
/-- values of the needs only, each often enough -/
theorem right_app {ns : List Nat} {L M : Lay} (h : Right ns L) (hM : ∀ v, some v ∈ M → v < ns.length) : Right ns (L ++ M) :=
  ⟨fun v hv => (List.mem_append.mp hv).elim (h.val v) (hM v), fun v n hv => by have := h.many v n hv; show n ≤ (L ++ M).count (some v); rw [List.count_append]; exact Nat.le_trans this (Nat.le_add_right _ _)⟩
/-- the first k needs are laid -/
structure Laid (ns : List Nat) (k : Nat) (F : Lay) : Prop where
  val : ∀ v, some v ∈ F → v < k
  many : ∀ (v n : Nat), v < k → ns[v]? = some n → n ≤ cn F v
  len : F.length = (ns.take k).sum
theorem Laid.zero (ns : List Nat) : Laid ns 0 [] := by
  refine ⟨fun v h => ?_, fun v n h => ?_, ?_⟩
  · cases h
  · omega
  · simp
theorem Laid.step {ns : List Nat} {k : Nat} {F : Lay} {n : Nat} (h : Laid ns k F) (hn : ns[k]? = some n) : Laid ns (k + 1) (F ++ List.replicate n (some k)) := by
  refine ⟨fun v hv => ?_, fun v m hv hm => ?_, ?_⟩
  · rcases List.mem_append.mp hv with hv | hv
    · have := h.val v hv; omega
    · have := (List.mem_replicate.mp hv).2; cases this; omega
  · show m ≤ (F ++ List.replicate n (some k)).count (some v)
    rw [List.count_append]
    by_cases e : v = k
    · subst e
      rw [hn] at hm
      cases hm
      rw [List.count_replicate_self]
      omega
    · have : m ≤ F.count (some v) := h.many v m (by omega) hm
      omega
  · rw [List.length_append, List.length_replicate, h.len, List.take_add_one, hn]
    simp
theorem Laid.right {ns : List Nat} {F : Lay} (h : Laid ns ns.length F) : Right ns F :=
  ⟨h.val, fun v n hv => h.many v n (List.getElem?_eq_some_iff.mp hv).1 hv⟩
/-! ### promises -/
def pNeeds (K : PySem.W.Frag) (x y z : V) (H : Hp) (Q : VK) : Prop := ∃ b k m, x = .ref b ∧ Bag H b ∧ y = nt k ∧ z = nt m ∧ k ≤ 100 ∧ 1 ≤ m ∧ m ≤ 10 ∧
  ∀ H' v ns, Same H H' → Nd K H' v ns → ns.length = k → (∀ n ∈ ns, 1 ≤ n ∧ n ≤ 20) → Q v H'
def pFit (K : PySem.W.Frag) (x y z : V) (H : Hp) (Q : VK) : Prop := ∃ b k m, x = .ref b ∧ Bag H b ∧ y = nt k ∧ z = nt m ∧ k ≤ 100 ∧ m ≤ 50 ∧
  ∀ H' v ns, Same H H' → Nd K H' v ns → ns.length ≤ m → ns.sum ≤ k → (∀ n ∈ ns, 1 ≤ n ∧ n ≤ 20) → Q v H'
def pSpread (K : PySem.W.Frag) (x y z : V) (H : Hp) (Q : VK) : Prop := ∃ b ns k, x = .ref b ∧ Bag H b ∧ Nd K H y ns ∧ z = nt k ∧ ns.length ≤ 100 ∧ ns.sum ≤ k ∧ k ≤ 100 ∧ (∀ n ∈ ns, 1 ≤ n ∧ n ≤ 20) ∧
  ∀ H' v L, Same H H' → LyF K H' v L → Right ns L → L.length = k → Q v H'
/-- empty places stay empty -/
def Stays (T : Task) : Prop := ∀ i : Nat, T.old[i]? = some none → T.wish[i]? = some none
def pMk (K : PySem.W.Frag) (x y z : V) (H : Hp) (Q : VK) : Prop := ∃ b k m, x = .ref b ∧ Bag H b ∧ y = nt k ∧ z = nt m ∧ k ≤ 40 ∧ m ≤ 40 ∧
  ∀ H' v T, Same H H' → TkT K H' v T → GoodT T → T.old.length ≤ k + 6 → T.ns.length ≤ m + 2 → Q v H'
def pMkS (K : PySem.W.Frag) (x y z : V) (H : Hp) (Q : VK) : Prop := ∃ b k m, x = .ref b ∧ Bag H b ∧ y = nt k ∧ z = nt m ∧ k ≤ 50 ∧ m ≤ 50 ∧
  ∀ H' v T, Same H H' → TkT K H' v T → GoodT T → T.old.length ≤ k + 1 → T.ns.length ≤ m → Stays T → Q v H'
structure RingOk (ps : List Nat) (old wish : Lay) : Prop where
  len : wish.length = old.length
  cnt : ∀ v : Nat, cn wish v = cn old v
  out : ∀ i, i ∉ ps → wish[i]? = old[i]?
def pRings (K : PySem.W.Frag) (x y z u : V) (H : Hp) (Q : VK) : Prop := ∃ H0 b a o w ps old, x = .ref b ∧ y = .ref a ∧ z = .ref o ∧ u = .ref w ∧ Same H0 H ∧ H0 w = none ∧ Bag H0 b ∧ SqL K H0 a (ps.map nt) ∧ SqL K H0 o (old.map it) ∧ H w = some (.lst (old.map it)) ∧
  ps.Nodup ∧ (∀ i ∈ ps, i < old.length) ∧ old.length ≤ 100 ∧ ∀ H' wish, Same H0 H' → H' w = some (.lst (wish.map it)) → RingOk ps old wish → Q (.ref w) H'
theorem right_cnt {ns : List Nat} {L L' : Lay} (h : Right ns L) (e : ∀ v : Nat, cn L' v = cn L v) : Right ns L' :=
  ⟨fun v hv => by
    have h1 : 0 < cn L' v := List.count_pos_iff.mpr hv
    rw [e] at h1
    exact h.val v (List.count_pos_iff.mp h1), fun v n hv => by rw [e]; exact h.many v n hv⟩
/-- one ring, turn by turn -/
structure Rg (old w0 wish : Lay) (R : List Nat) (j : Nat) : Prop where
  len : wish.length = w0.length
  out : ∀ i, i ∉ R.take j → wish[i]? = w0[i]?
  cnt : ∀ v : Nat, cn wish v + (if 0 < j ∧ old.getD (R.getD (j - 1) 0) none = some v then 1 else 0) = cn w0 v + (if 0 < j ∧ old.getD (R.getD (R.length - 1) 0) none = some v then 1 else 0)
theorem Rg.zero (old w0 : Lay) (R : List Nat) : Rg old w0 w0 R 0 := ⟨rfl, fun _ _ => rfl, fun v => by simp⟩
theorem getD_ne {L : Lay} {i : Nat} {L' : Lay} (h : L[i]? = L'[i]?) : L.getD i none = L'.getD i none := by rw [List.getD_eq_getElem?_getD, List.getD_eq_getElem?_getD, h]
theorem Rg.step {old w0 wish : Lay} {R : List Nat} {j r s : Nat} (h : Rg old w0 wish R j) (hnd : R.Nodup) (hr : R[j]? = some r) (hlt : r < w0.length) (hold : ∀ i ∈ R, w0[i]? = old[i]?)
    (hs : s = if j = 0 then R.getD (R.length - 1) 0 else R.getD (j - 1) 0) : Rg old w0 (wish.set r (old.getD s none)) R (j + 1) := by
  have hjl := (List.getElem?_eq_some_iff.mp hr).1
  have hnot : r ∉ R.take j := by
    intro hm
    obtain ⟨i, hi⟩ := List.mem_iff_getElem?.mp hm
    have hi1 := (List.getElem?_eq_some_iff.mp hi).1
    rw [List.length_take] at hi1
    rw [List.getElem?_take_of_lt (by omega)] at hi
    have := (List.getElem?_inj (by omega) hnd).mp (hi.trans hr.symm)
    omega
  have ewr : wish.getD r none = old.getD r none := by rw [getD_ne (h.out r hnot), getD_ne (hold r (List.mem_of_getElem? hr))]
  refine ⟨by rw [List.length_set]; exact h.len, fun i hi => ?_, fun v => ?_⟩
  · rw [List.take_add_one, hr] at hi
    have h1 : i ∉ R.take j := fun z => hi (List.mem_append_left _ z)
    have h2 : r ≠ i := fun z => hi (List.mem_append_right _ (by rw [z]; simp))
    rw [List.getElem?_set_ne h2, h.out i h1]
  · have h1 := cn_set (L := wish) (x := old.getD s none) v (by rw [h.len]; exact hlt)
    rw [ewr] at h1
    have h2 := h.cnt v
    have e1 : R.getD (j + 1 - 1) 0 = r := by rw [Nat.add_sub_cancel, List.getD_eq_getElem?_getD, hr]; rfl
    rw [e1]
    subst hs
    by_cases hj : j = 0
    · subst hj
      rw [if_pos rfl] at h1 ⊢
      simp only [Nat.lt_irrefl, false_and, if_false, Nat.add_zero] at h2
      simp only [Nat.zero_add, Nat.zero_lt_one, true_and]
      omega
    · rw [if_neg hj] at h1 ⊢
      have hj' : 0 < j := by omega
      simp only [hj', true_and] at h2
      simp only [Nat.succ_pos, Nat.zero_lt_succ, true_and]
      omega
theorem Rg.done {old w0 wish : Lay} {R : List Nat} (h : Rg old w0 wish R R.length) (v : Nat) : cn wish v = cn w0 v := by
  have := h.cnt v
  omega
theorem at_prev {R : List Nat} {j : Nat} (hj : j < R.length) : atI (R.map nt) ((j : Int) - 1) = some (nt (if j = 0 then R.getD (R.length - 1) 0 else R.getD (j - 1) 0)) := by
  by_cases h : j = 0
  · subst h
    rw [if_pos rfl]
    unfold atI ixN
    rw [if_neg (by omega)]
    rw [List.length_map, if_pos (by omega)]
    show (R.map nt)[((((0 : Nat) : Int) - 1) + (R.length : Int)).toNat]? = _
    rw [show ((((0 : Nat) : Int) - 1) + (R.length : Int)).toNat = R.length - 1 by omega, List.getElem?_map, List.getD_eq_getElem?_getD, List.getElem?_eq_getElem (by omega)]
    rfl
  · rw [if_neg h, show (j : Int) - 1 = ((j - 1 : Nat) : Int) by omega]
    refine atI_nat ?_
    rw [List.getElem?_map, List.getD_eq_getElem?_getD, List.getElem?_eq_getElem (by omega)]
    rfl
theorem pos_asc0 {α : Type} (p : Nat → α → Bool) : ∀ (L : List α) (k : Nat), (selF p (fun i _ => i) k L).Pairwise (· < ·) ∧ ∀ x ∈ selF p (fun i _ => i) k L, k ≤ x
  | [], _ => ⟨.nil, fun x h => by cases h⟩
  | a :: L, k => by
    obtain ⟨h1, h2⟩ := pos_asc0 p L (k + 1)
    show (if p k a then k :: selF p (fun i _ => i) (k + 1) L else selF p (fun i _ => i) (k + 1) L).Pairwise (· < ·) ∧ ∀ x ∈ (if p k a then k :: selF p (fun i _ => i) (k + 1) L else selF p (fun i _ => i) (k + 1) L), k ≤ x
    split
    · refine ⟨List.pairwise_cons.mpr ⟨fun x hx => by have := h2 x hx; omega, h1⟩, fun x hx => ?_⟩
      rcases List.mem_cons.mp hx with rfl | hx
      · exact Nat.le_refl _
      · have := h2 x hx; omega
    · exact ⟨h1, fun x hx => by have := h2 x hx; omega⟩
theorem pos_asc {α : Type} (p : Nat → α → Bool) (L : List α) : (pos p L).Pairwise (· < ·) := (pos_asc0 p L 0).1
theorem pos_nodup {α : Type} (p : Nat → α → Bool) (L : List α) : (pos p L).Nodup := (pos_asc p L).imp fun h => Nat.ne_of_lt h
theorem reps (n : Nat) (o : Option Nat) : (List.replicate n [it o]).flatten = (List.replicate n o).map it := by
  induction n with
  | zero => rfl
  | succ n ih => rw [List.replicate_succ, List.flatten_cons, ih, List.replicate_succ]; rfl
theorem nodup_len : ∀ {l : List Nat} {n : Nat}, l.Nodup → (∀ i ∈ l, i < n) → l.length ≤ n := by
  intro l n h hb
  have h1 : ∀ v, l.count v ≤ (List.range n).count v := fun v => by
    by_cases hv : v ∈ l
    · have : 0 < (List.range n).count v := List.count_pos_iff.mpr (List.mem_range.mpr (hb v hv))
      have := List.nodup_iff_count.mp h v
      omega
    · rw [List.count_eq_zero.mpr hv]; exact Nat.zero_le _
  have := (cnt_all l (List.range n) h1).1
  rwa [List.length_range] at this
end Wm
set_option Elab.async false
set_option linter.all false
set_option maxRecDepth 100000
set_option maxHeartbeats 4000000
/-! plain: parted tasks, tasks beside each other -/
namespace Wm
open PySem PySem.Spec PyProof.Rows L2
structure Blk (ns : List Nat) (n k j : Nat) (O W : Lay) (l0 : Nat) : Prop where
  vo : ∀ v, some v ∈ O → v < ns.length + k
  vw : ∀ v, some v ∈ W → v < ns.length + k
  bo : ∀ (v m : Nat), ns[v]? = some m → m ≤ cn O v
  bw : ∀ (v m : Nat), ns[v]? = some m → m ≤ cn W v
  co : ∀ u, u < j → n ≤ cn O (ns.length + u)
  cw : ∀ u, (1 ≤ u ∧ u ≤ j ∧ u < k) ∨ (u = 0 ∧ j = k) → n ≤ cn W (ns.length + u)
  no : none ∉ O
  nw : none ∉ W
  lo : O.length = l0 + j * n
  lw : W.length = l0 + j * n
theorem Blk.start {ns : List Nat} {O W : Lay} {n k : Nat} (ho : Right ns O) (hw : Right ns W) (h1 : none ∉ O) (h2 : none ∉ W) (hl : O.length = W.length) (hk : 0 < k) : Blk ns n k 0 O W O.length :=
  ⟨fun v h => by have := ho.val v h; omega, fun v h => by have := hw.val v h; omega, ho.many, hw.many, fun u h => by omega, fun u h => by omega, h1, h2, by omega, by omega⟩
theorem cn_rep (L : Lay) (n a v : Nat) : cn (L ++ List.replicate n (some a)) v = cn L v + (if a = v then n else 0) := by
  show (L ++ List.replicate n (some a)).count (some v) = _
  rw [List.count_append, List.count_replicate]
  by_cases h : a = v
  · rw [if_pos h, if_pos (by rw [h]; exact beq_self_eq_true _)]
  · rw [if_neg h, if_neg (by simpa using h)]
theorem Blk.step {ns : List Nat} {O W : Lay} {n k j l0 : Nat} (h : Blk ns n k j O W l0) (hj : j < k) : Blk ns n k (j + 1) (O ++ List.replicate n (some (ns.length + j))) (W ++ List.replicate n (some (ns.length + (j + 1) % k))) l0 := by
  have hm : (j + 1) % k < k := Nat.mod_lt _ (by omega)
  refine ⟨fun v hv => ?_, fun v hv => ?_, fun v m hv => ?_, fun v m hv => ?_, fun u hu => ?_, fun u hu => ?_, fun z => ?_, fun z => ?_, ?_, ?_⟩
  · rcases List.mem_append.mp hv with hv | hv
    · exact h.vo v hv
    · have := (List.mem_replicate.mp hv).2; cases this; omega
  · rcases List.mem_append.mp hv with hv | hv
    · exact h.vw v hv
    · have := (List.mem_replicate.mp hv).2; cases this; omega
  · rw [cn_rep]; exact Nat.le_trans (h.bo v m hv) (Nat.le_add_right _ _)
  · rw [cn_rep]; exact Nat.le_trans (h.bw v m hv) (Nat.le_add_right _ _)
  · rw [cn_rep]
    by_cases e : u = j
    · subst e; rw [if_pos rfl]; omega
    · have := h.co u (by omega); omega
  · rw [cn_rep]
    by_cases e : (j + 1) % k = u
    · rw [if_pos (by omega)]; omega
    · by_cases e2 : j + 1 = k
      · have e3 : (j + 1) % k = 0 := by rw [e2]; exact Nat.mod_self k
        rw [e3] at e
        have := h.cw u (by omega)
        omega
      · have e3 : (j + 1) % k = j + 1 := Nat.mod_eq_of_lt (by omega)
        rw [e3] at e
        have := h.cw u (by omega)
        omega
  · rcases List.mem_append.mp z with z | z
    · exact h.no z
    · have := (List.mem_replicate.mp z).2; cases this
  · rcases List.mem_append.mp z with z | z
    · exact h.nw z
    · have := (List.mem_replicate.mp z).2; cases this
  · rw [List.length_append, List.length_replicate, h.lo, Nat.add_mul]; omega
  · rw [List.length_append, List.length_replicate, h.lw, Nat.add_mul]; omega
theorem rep_get {ns : List Nat} {n k v m : Nat} (h : (ns ++ List.replicate k n)[v]? = some m) : ns[v]? = some m ∨ (ns.length ≤ v ∧ v - ns.length < k ∧ m = n) := by
  by_cases hv : v < ns.length
  · rw [List.getElem?_append_left hv] at h; exact .inl h
  · rw [List.getElem?_append_right (by omega)] at h
    obtain ⟨h1, h2⟩ := List.getElem?_eq_some_iff.mp h
    rw [List.length_replicate] at h1
    rw [List.getElem_replicate] at h2
    exact .inr ⟨by omega, h1, h2.symm⟩
theorem Blk.done {ns : List Nat} {O W : Lay} {n k l0 : Nat} (h : Blk ns n k k O W l0) : Right (ns ++ List.replicate k n) O ∧ Right (ns ++ List.replicate k n) W := by
  have hl : (ns ++ List.replicate k n).length = ns.length + k := by rw [List.length_append, List.length_replicate]
  refine ⟨⟨fun v hv => by rw [hl]; exact h.vo v hv, fun v m hv => ?_⟩, ⟨fun v hv => by rw [hl]; exact h.vw v hv, fun v m hv => ?_⟩⟩
  · rcases rep_get hv with h1 | ⟨h1, h2, rfl⟩
    · exact h.bo v m h1
    · have := h.co (v - ns.length) h2
      rwa [show ns.length + (v - ns.length) = v by omega] at this
  · rcases rep_get hv with h1 | ⟨h1, h2, rfl⟩
    · exact h.bw v m h1
    · have := h.cw (v - ns.length) (by omega)
      rwa [show ns.length + (v - ns.length) = v by omega] at this
theorem fmod_nat (a k : Nat) : Int.fmod ((a : Nat) : Int) (k : Int) = ((a % k : Nat) : Int) := by
  rw [Int.fmod_eq_emod_of_nonneg _ (by omega)]
  rfl
theorem nreps (k n : Nat) : (List.replicate k [nt n]).flatten = (List.replicate k n).map nt := by
  induction k with
  | zero => rfl
  | succ k ih => rw [List.replicate_succ, List.flatten_cons, ih, List.replicate_succ]; rfl
/-- two layouts read in one order -/
theorem order_stays {O W : Lay} {n : Nat} (ho : none ∉ O) (hl : O.length = W.length) {od : List Nat} (hod : ∀ i ∈ od, i < (O ++ List.replicate n none).length) (i : Nat)
    (h : (od.map fun j => (O ++ List.replicate n none).getD j none)[i]? = some none) : (od.map fun j => (W ++ List.replicate n none).getD j none)[i]? = some none := by
  rw [List.getElem?_map] at h ⊢
  cases hi : od[i]? with
  | none => rw [hi] at h; cases h
  | some j =>
    rw [hi] at h
    simp only [Option.map_some, Option.some.injEq] at h ⊢
    have hj := hod j (List.mem_of_getElem? hi)
    have h2 : O.length ≤ j := by
      refine Classical.byContradiction fun z => ho ?_
      have h3 : (O ++ List.replicate n none)[j]? = some none := by have := getD_get hj; rwa [h] at this
      rw [List.getElem?_append_left (by omega)] at h3
      exact List.mem_of_getElem? h3
    rw [List.getD_eq_getElem?_getD, List.getElem?_append_right (by omega), List.getElem?_replicate]
    split <;> rfl
/-! ### stayed tasks -/
theorem cn_pick (v : Nat) (f : Nat → Option Nat) : ∀ (O W : Lay) (k : Nat), O.length = W.length → (∀ (i : Nat) o, W[i]? = some o → f (k + i) = o) → (∀ i : Nat, O[i]? = some none → W[i]? = some none) →
    (selF (fun _ (o : Option Nat) => !decide (it o = .non)) (fun i _ => f i) k O).count (some v) = W.count (some v)
  | [], [], _, _, _, _ => rfl
  | [], _ :: _, _, h, _, _ => by simp at h
  | _ :: _, [], _, h, _, _ => by simp at h
  | o :: O, w :: W, k, hl, hf, hs => by
    have ih := cn_pick v f O W (k + 1) (by simpa using hl) (fun i x hx => by
      have := hf (i + 1) x (by simpa using hx)
      rwa [show k + (i + 1) = k + 1 + i by omega] at this) fun i hi => by simpa using hs (i + 1) (by simpa using hi)
    have h0 := hf 0 w rfl
    rw [Nat.add_zero] at h0
    show (if !decide (it o = .non) then f k :: selF _ (fun i _ => f i) (k + 1) O else selF _ (fun i _ => f i) (k + 1) O).count (some v) = _
    cases o with
    | none =>
      have hw : w = none := by have := hs 0 rfl; simpa using this
      subst hw
      have e : (!decide (it none = .non)) = false := rfl
      rw [e, List.count_cons]
      simp only [Bool.false_eq_true, if_false]
      rw [ih]; simp
    | some u =>
      have e : (!decide (it (some u) = .non)) = true := rfl
      rw [e, if_pos rfl, List.count_cons, List.count_cons, ih, h0]
theorem val_pick (f : Nat → Option Nat) {O W : Lay} (hf : ∀ i, f i = W.getD i none) {F : List Nat} {v : Nat} (h : some v ∈ F.map f) : some v ∈ W := by
  obtain ⟨i, _, hi⟩ := List.mem_map.mp h
  rw [hf] at hi
  exact List.mem_of_getElem? (getD_some.mp hi)
theorem right_stay {ns : List Nat} {O W : Lay} {r : Nat} (h : Right ns W) (hl : O.length = W.length) (hs : ∀ i : Nat, O[i]? = some none → W[i]? = some none) (hr : 1 ≤ r) :
    Right (ns ++ [1]) ((pos (fun _ o => !decide (it o = .non)) O).map (fun i => W.getD i none) ++ List.replicate r (some ns.length)) := by
  have hc : ∀ v : Nat, cn ((pos (fun _ o => !decide (it o = .non)) O).map (fun i => W.getD i none)) v = cn W v := fun v => by
    have := cn_pick v (fun i => W.getD i none) O W 0 hl (fun i o ho => by rw [Nat.zero_add, List.getD_eq_getElem?_getD, ho]; rfl) hs
    rw [← selF_map (fun _ (o : Option Nat) => !decide (it o = .non)) (fun i _ => i) (fun i => W.getD i none) O 0]
    exact this
  refine ⟨fun v hv => ?_, fun v n hv => ?_⟩
  · rw [List.length_append]
    show v < ns.length + 1
    rcases List.mem_append.mp hv with hv | hv
    · have := h.val v (val_pick (O := O) (fun i => W.getD i none) (fun _ => rfl) hv)
      omega
    · have := (List.mem_replicate.mp hv).2; cases this; omega
  · rw [cn_rep, hc]
    by_cases hvl : v < ns.length
    · rw [List.getElem?_append_left hvl] at hv
      exact Nat.le_trans (h.many v n hv) (Nat.le_add_right _ _)
    · rw [List.getElem?_append_right (by omega)] at hv
      obtain ⟨h1, h2⟩ := List.getElem?_eq_some_iff.mp hv
      have hv0 : v = ns.length := by simp at h1; omega
      subst hv0
      simp at h2
      rw [if_pos rfl]
      omega
/-! ### beside -/
def shf (k : Nat) : Option Nat → Option Nat
  | none => none
  | some v => some (v + k)
theorem cn_shf (k v : Nat) : ∀ L : Lay, cn (L.map (shf k)) (v + k) = cn L v
  | [] => rfl
  | o :: L => by
    have ih := cn_shf k v L
    show (shf k o :: L.map (shf k)).count (some (v + k)) = (o :: L).count (some v)
    rw [List.count_cons, List.count_cons]
    cases o with
    | none => simpa [shf] using ih
    | some u =>
      have ih' : (L.map (shf k)).count (some (v + k)) = L.count (some v) := ih
      rw [ih']
      simp [shf]
theorem right_beside {ns1 ns2 : List Nat} {L1 L2 : Lay} (h1 : Right ns1 L1) (h2 : Right ns2 L2) : Right (ns1 ++ ns2) (L1 ++ L2.map (shf ns1.length)) := by
  refine ⟨fun v hv => ?_, fun v n hv => ?_⟩
  · rw [List.length_append]
    rcases List.mem_append.mp hv with hv | hv
    · have := h1.val v hv; omega
    · obtain ⟨o, ho, e⟩ := List.mem_map.mp hv
      cases o with
      | none => cases e
      | some u =>
        have h3 : u + ns1.length = v := by simpa [shf] using e
        have := h2.val u ho
        omega
  · show n ≤ (L1 ++ L2.map (shf ns1.length)).count (some v)
    rw [List.count_append]
    by_cases hvl : v < ns1.length
    · rw [List.getElem?_append_left hvl] at hv
      exact Nat.le_trans (h1.many v n hv) (Nat.le_add_right _ _)
    · rw [List.getElem?_append_right (by omega)] at hv
      have := h2.many _ n hv
      have h3 := cn_shf ns1.length (v - ns1.length) L2
      rw [show v - ns1.length + ns1.length = v by omega] at h3
      have h4 : (L2.map (shf ns1.length)).count (some v) = cn L2 (v - ns1.length) := h3
      rw [h4]
      exact Nat.le_trans this (Nat.le_add_left _ _)
def beT (T1 T2 : Task) : Task := ⟨T1.ns ++ T2.ns, T1.old ++ T2.old.map (shf T1.ns.length), T1.wish ++ T2.wish.map (shf T1.ns.length)⟩
theorem goodT_beside {T1 T2 : Task} (h1 : GoodT T1) (h2 : GoodT T2) : GoodT (beT T1 T2) :=
  ⟨fun n hn => (List.mem_append.mp hn).elim (h1.pos n) (h2.pos n), right_beside h1.old h2.old, right_beside h1.wish h2.wish, by
    show (T1.old ++ T2.old.map _).length = (T1.wish ++ T2.wish.map _).length
    rw [List.length_append, List.length_append, List.length_map, List.length_map, h1.len, h2.len]⟩
def pBeside (K : PySem.W.Frag) (x y : V) (H : Hp) (Q : VK) : Prop := ∃ T1 T2, TkT K H x T1 ∧ TkT K H y T2 ∧ T1.ns.length ≤ 100 ∧ T2.ns.length ≤ 100 ∧ T1.old.length ≤ 100 ∧ T2.old.length ≤ 100 ∧ T1.old.length = T1.wish.length ∧ T2.old.length = T2.wish.length ∧
  ∀ H' v, Same H H' → TkT K H' v (beT T1 T2) → Q v H'
/-- new lists, one a turn -/
theorem lcFr {K : PySem.W.Frag} {g : TG} {te : TE} {vs : List Nat} {σ : L2.St} {Q : VK} {H1 : Hp} {a : Addr} {xs : List V} (zs : Nat → List V) (hS : SqT K H1 a xs) (hn : xs.length ≤ 100000)
    (hs : ∀ i x H', xs[i]? = some x → Same H1 H' → ∀ Z : VK, (∀ H4 l, Same H' H4 → H' l = none → H4 l = some (.lst (zs i)) → Z (.ref l) H4) → g x (wipe σ vs) H' fun σ2 H2 => wipe σ2 vs = wipe σ vs ∧ te σ2 H2 Z)
    (hd : ∀ D H' (ls : List Addr), H1 D = none → Same H1 H' → H' D = some (.lst (ls.map V.ref)) → ls.length = xs.length → (∀ i l, ls[i]? = some l → l ≠ D ∧ H' l = some (.lst (zs i))) → Q (.ref D) H') : LcG (Itt K a) g tYes te vs σ H1 Q := by
  intro D hD
  refine lc_it (walk_tup (xs := xs)) (fun i H' => Same H1 H' ∧ ∃ ls : List Addr, H' D = some (.lst (ls.map V.ref)) ∧ ls.length = i ∧ ∀ j l, ls[j]? = some l → l ≠ D ∧ H' l = some (.lst (zs j))) ⟨Same.new hD, [], upd_same, rfl, fun j l h => by simp at h⟩ (fun i H' hi q => same_t q.1 hS) (fun i x H' H'' hi q y => ?_) fun H' q => ?_
  · obtain ⟨e, ls, hy, hl, hp⟩ := q
    obtain ⟨rfl, hx⟩ := y
    have key := hs i x H'' hx e (fun y H4 => ∃ acc, H4 D = some (.lst acc) ∧ acc.length < sizeLine ∧ Same H1 (upd H4 D (.lst (acc ++ [y]))) ∧ ∃ ls : List Addr, upd H4 D (.lst (acc ++ [y])) D = some (.lst (ls.map V.ref)) ∧ ls.length = i + 1 ∧ ∀ j l, ls[j]? = some l → l ≠ D ∧ upd H4 D (.lst (acc ++ [y])) l = some (.lst (zs j))) fun H4 l e4 hl4 h4 => by
      have hlD : l ≠ D := fun z => by rw [z, hy] at hl4; cases hl4
      refine ⟨_, e4 _ _ hy, by rw [List.length_map, hl]; show _ < 16777216; omega, Same.mut (e.trans e4) hD, ls ++ [l], by rw [upd_same, List.map_append]; rfl, by rw [List.length_append, hl]; rfl, fun j l' hj => ?_⟩
      by_cases hjl : j < ls.length
      · rw [List.getElem?_append_left hjl] at hj
        obtain ⟨h5, h6⟩ := hp j l' hj
        exact ⟨h5, by rw [upd_ne h5]; exact e4 _ _ h6⟩
      · rw [List.getElem?_append_right (by omega)] at hj
        have hj0 : j = i := by have := (List.getElem?_eq_some_iff.mp hj).1; simp at this; omega
        subst hj0
        rw [hl, Nat.sub_self] at hj
        cases hj
        exact ⟨hlD, by rw [upd_ne hlD]; exact h4⟩
    have e2 : ∀ (te : TE) (N : Hp → Prop) (Z : VK), (fun (σ2 : L2.St) (H2 : Hp) => wipe σ2 vs = wipe σ vs ∧ tYes σ2 H2 fun b H3 => if b = true then te σ2 H3 Z else N H3) = fun σ2 H2 => wipe σ2 vs = wipe σ vs ∧ te σ2 H2 Z := fun te N Z => by
      funext σ2 H2
      show (wipe σ2 vs = wipe σ vs ∧ if true = true then te σ2 H2 Z else N H2) = _
      rw [if_pos rfl]
    rw [e2]
    exact key
  · obtain ⟨e, ls, hy, hl, hp⟩ := q
    exact hd D H' ls hD e hy hl hp
/-! ### tasks with plans -/
theorem nd_mut {K : PySem.W.Frag} {H : Hp} {p : Addr} {zs : List V} {o : HO} {x : V} {ns : List Nat} (hp : H p = some (.lst zs)) (h : Nd K H x ns) : Nd K (upd H p o) x ns := let ⟨c, h1, h2⟩ := h; ⟨c, h1, sqT_mut hp h2⟩
structure DoOk (T : Task) (P : Plan) : Prop where
  t : GoodT T
  p : GoodP T.ns T.old P
  w : wrong T.wish (lastL T.old P) = []
  lp : P.length ≤ 1000
  lo : T.old.length ≤ 60
  ln : T.ns.length ≤ 60
def DoR (K : PySem.W.Frag) (H : Hp) (v : V) (T : Task) (P : Plan) : Prop := ∃ c tv pv, v = .ref c ∧ SqT K H c [tv, pv] ∧ TkT K H tv T ∧ PlT K H pv P
def pLedT (K : PySem.W.Frag) (x y z u : V) (H : Hp) (Q : VK) : Prop := ∃ b k m r, x = .ref b ∧ Bag H b ∧ y = nt k ∧ z = nt m ∧ u = nt r ∧ k ≤ 40 ∧ m ≤ 40 ∧ r ≤ 20 ∧
  ∀ H' v T P, Same H H' → DoR K H' v T P → DoOk T P → T.old.length ≤ k → T.ns.length ≤ m → Q v H'
def pTask (K : PySem.W.Frag) (x y z : V) (H : Hp) (Q : VK) : Prop := ∃ b k m, x = .ref b ∧ Bag H b ∧ y = nt k ∧ z = nt m ∧ k ≤ 20 ∧ m ≤ 20 ∧
  ∀ H' v T, Same H H' → TkT K H' v T → GoodT T → T.old.length ≤ 60 → T.ns.length ≤ 60 → Q v H'
def pDo (K : PySem.W.Frag) (x y z : V) (H : Hp) (Q : VK) : Prop := ∃ b k m, x = .ref b ∧ Bag H b ∧ y = nt k ∧ z = nt m ∧ k ≤ 20 ∧ m ≤ 20 ∧
  ∀ H' v T P, Same H H' → DoR K H' v T P → DoOk T P → Q v H'
def Sub (F L : Lay) : Prop := ∀ i v : Nat, F[i]? = some (some v) → L.getD i none = some v
theorem Sub.wrong {F L : Lay} (h : Sub F L) : wrong F L = [] := by
  refine List.eq_nil_iff_forall_not_mem.mpr fun i hi => ?_
  obtain ⟨v, h1, h2⟩ := mem_wrong.mp hi
  exact h2 (h i v h1)
theorem Sub.refl (L : Lay) : Sub L L := fun i v h => getD_some.mpr h
theorem Sub.set {F L : Lay} (h : Sub F L) (r : Nat) : Sub (F.set r none) L := fun i v hi => by
  by_cases hr : r = i
  · subst hr
    by_cases hl : r < F.length
    · rw [List.getElem?_set_self hl] at hi; cases hi
    · rw [List.getElem?_eq_none (by rw [List.length_set]; omega)] at hi; cases hi
  · rw [List.getElem?_set_ne hr] at hi; exact h i v hi
theorem set_back {F : Lay} {r : Nat} (h : r < F.length) (o : Option Nat) : (F.set r o).set r (F.getD r none) = F := by
  rw [List.set_set]
  refine List.ext_getElem? fun i => ?_
  by_cases hr : r = i
  · subst hr
    rw [List.getElem?_set_self h, getD_get h]
  · rw [List.getElem?_set_ne hr]
end Wm
set_option Elab.async false
set_option linter.all false
set_option maxRecDepth 100000
set_option maxHeartbeats 4000000
/-! the program's checks: promises -/
namespace Wm
open PySem PySem.Spec PyProof.Rows L2
theorem tyx_tup {K : PySem.W.Frag} {H : Hp} {a : Addr} {xs : List V} (h : SqT K H a xs) : TyX K H (.ref a) (.type "tuple") := by
  rcases h with (h | ⟨o, h⟩) | ⟨o, its, n, h1, h2, _⟩
  · exact .base (.tup h)
  · exact .fTuple h
  · exact .kTuple h1 h2
theorem isi_tup {K : PySem.W.Frag} {H : Hp} {a : Addr} {xs : List V} {Q : VK} (h : SqT K H a xs) (q : Q (.bl true) H) : rIsi K [.ref a, .ty "tuple"] H Q :=
  ⟨_, _, _, _, true, rfl, .ty _, tyx_tup h, kit_ty (by decide +kernel), q⟩
theorem isi_int {K : PySem.W.Frag} {H : Hp} {i : Int} {Q : VK} (q : Q (.bl true) H) : rIsi K [.int i, .ty "int"] H Q :=
  ⟨_, _, _, _, true, rfl, .ty _, .base (.int i), kit_ty (by decide +kernel), q⟩
theorem isi_bool {K : PySem.W.Frag} {H : Hp} {i : Int} {Q : VK} (q : Q (.bl false) H) : rIsi K [.int i, .ty "bool"] H Q :=
  ⟨_, _, _, _, false, rfl, .ty _, .base (.int i), kit_ty (by decide +kernel), q⟩
theorem kTT {K : PySem.W.Frag} : PySem.W.kitOne K (.type "tuple") (.type "tuple") = some true := kit_ty (by decide +kernel)
theorem kII {K : PySem.W.Frag} : PySem.W.kitOne K (.type "int") (.type "int") = some true := kit_ty (by decide +kernel)
theorem kIB {K : PySem.W.Frag} : PySem.W.kitOne K (.type "int") (.type "bool") = some false := kit_ty (by decide +kernel)
theorem rAllT {α : Type} {K : PySem.W.Frag} {H : Hp} {D : Addr} {Q : VK} (L : List α) (h : H D = some (.lst (L.map fun _ => V.bl true))) (q : Q (.bl true) H) : rAll K [.ref D] H Q := by
  refine ⟨D, L.map fun _ => true, rfl, SqL.of (by rw [h, List.map_map]; rfl), ?_⟩
  have : (L.map fun _ => true).all id = true := by rw [List.all_eq_true]; intro x hx; obtain ⟨_, _, rfl⟩ := List.mem_map.mp hx; rfl
  rw [this]; exact q
def pIsInt (x : V) (H : Hp) (Q : VK) : Prop := ∃ i, x = .int i ∧ Q (.bl true) H
def pIsBelow (x y : V) (H : Hp) (Q : VK) : Prop := ∃ n i, x = nt n ∧ y = nt i ∧ i < n ∧ Q (.bl true) H
def pYes1 (K : PySem.W.Frag) {α : Type} (R : Hp → V → α → Prop) (g : α → Prop) (x : V) (H : Hp) (Q : VK) : Prop := ∃ a, R H x a ∧ g a ∧ ∀ H', Same H H' → Q (.bl true) H'
def pYes2 (K : PySem.W.Frag) {α : Type} (R : Hp → V → α → Prop) (g : Nat → α → Prop) (x y : V) (H : Hp) (Q : VK) : Prop := ∃ n a, x = nt n ∧ R H y a ∧ g n a ∧ ∀ H', Same H H' → Q (.bl true) H'
def gNeeds (ns : List Nat) : Prop := ns.length ≤ 1000 ∧ ∀ n ∈ ns, 1 ≤ n
def pIsLayout (K : PySem.W.Frag) (x y : V) (H : Hp) (Q : VK) : Prop := ∃ ns L, Nd K H x ns ∧ LyT K H y L ∧ L.length ≤ 1000 ∧ (∀ v, some v ∈ L → v < ns.length) ∧ ∀ H', Same H H' → Q (.bl true) H'
def pIsRightP (K : PySem.W.Frag) (x y : V) (H : Hp) (Q : VK) : Prop := ∃ ns L, Nd K H x ns ∧ LyF K H y L ∧ ns.length ≤ 1000 ∧ L.length ≤ 1000 ∧ Right ns L ∧ ∀ H', Same H H' → Q (.bl true) H'
def gTask (T : Task) : Prop := GoodT T ∧ T.ns.length ≤ 1000 ∧ T.old.length ≤ 1000
def gLot (n : Nat) (P : List Nat) : Prop := P.length ≤ 1000 ∧ P.Pairwise (· < ·) ∧ ∀ i ∈ P, i < n
def gCopy (n : Nat) (q : Nat × Nat) : Prop := q.1 < n ∧ q.2 < n ∧ q.1 ≠ q.2
structure gSt (n : Nat) (S : Stretch) : Prop where
  len : S.length ≤ 1000
  ne : S ≠ []
  lot : (plc S).Pairwise (· < ·)
  low : ∀ q ∈ S, q.1 < n ∧ q.2 < n
  src : ∀ q ∈ S, q.2 ∉ plc S
theorem GoodS.g {ns : List Nat} {L : Lay} {S : Stretch} (g : GoodS ns L S) (h : L.length ≤ 1000) : gSt L.length S := ⟨Nat.le_trans g.len h, g.ne, g.lot, g.low, g.src⟩
def gPlan (n : Nat) (P : Plan) : Prop := P.length ≤ 1000 ∧ ∀ S ∈ P, gSt n S
theorem GoodP.all {ns : List Nat} : ∀ {P : Plan} {L : Lay}, GoodP ns L P → L.length ≤ 1000 → ∀ S ∈ P, gSt L.length S
  | [], _, _, _, S, h => by cases h
  | T :: P, L, g, hl, S, h => by
    rcases List.mem_cons.mp h with rfl | h
    · exact g.1.g hl
    · have := GoodP.all (P := P) (L := ledS L T) g.2 (by rw [ledS_len]; exact hl) S h
      rwa [ledS_len] at this
def pPlacesOf (K : PySem.W.Frag) (x : V) (H : Hp) (Q : VK) : Prop := ∃ S, StT K H x S ∧ S.length ≤ 1000 ∧ ∀ H' v, Same H H' → Nd K H' v (plc S) → Q v H'
def pCan (K : PySem.W.Frag) (x y : V) (H : Hp) (Q : VK) : Prop := ∃ L S, LyT K H x L ∧ StT K H y S ∧ S.length ≤ 1000 ∧ (∀ q ∈ S, q.2 < L.length ∧ L.getD q.2 none ≠ none) ∧ ∀ H', Same H H' → Q (.bl true) H'
def pDoes (K : PySem.W.Frag) (x y : V) (H : Hp) (Q : VK) : Prop := ∃ T P, TkT K H x T ∧ PlT K H y P ∧ GoodP T.ns T.old P ∧ T.old.length ≤ 1000 ∧ P.length ≤ 1000 ∧ T.wish.length = T.old.length ∧ wrong T.wish (lastL T.old P) = [] ∧ ∀ H', Same H H' → Q (.bl true) H'
/-- zip of two tuples -/
theorem walk_zipT {K : PySem.W.Frag} {a b : Addr} {xs ys : List V} {n : Nat} (hn : n = min xs.length ys.length) : Walk (RZ.ItzT K a b) n (fun H => SqT K H a xs ∧ SqT K H b ys) (YPair (fun i => xs[i]?) (fun i => ys[i]?)) := by
  subst hn
  refine ⟨fun i _ hi q => ?_, fun _ q => ⟨xs, ys, q.1, q.2, by omega⟩, fun i H v H' _ q y => ?_⟩
  · have h1 : i < xs.length := by omega
    have h2 : i < ys.length := by omega
    exact ⟨xs, ys, xs[i], ys[i], q.1, q.2, by simp [h1], by simp [h2]⟩
  · obtain ⟨T, x, z, h1, h2, h3, h4, h5⟩ := y
    exact ⟨T, x, z, h1, h2, h3, h4 xs q.1, h5 ys q.2⟩
section
variable {α : Type} {J : It} {n : Nat} {G : Hp → Prop} {Y : Nat → Hp → V → Hp → Prop} {H1 : Hp} {g : TG} {te : TE} {vs : List Nat} {σ : L2.St} {Q : VK}
theorem mpSel (w : Walk J n G Y) (L : List α) (hL : L.length = n) (v : Nat → α → V)
    (hG : ∀ H', Same H1 H' → G H') (hn : n ≤ 100000)
    (hs : ∀ i a x H' H'', L[i]? = some a → Same H1 H' → Y i H' x H'' → ∀ Z : VK, (∀ H4, Same H' H4 → Z (v i a) H4) → g x (wipe σ vs) H'' fun σ2 H2 => wipe σ2 vs = wipe σ vs ∧ te σ2 H2 Z)
    (hd : ∀ D H', H1 D = none → Same H1 H' → H' D = some (.lst (L.zipIdx.map fun q => v q.2 q.1)) → Q (.ref D) H') : LcG J g tYes te vs σ H1 Q := by
  refine lc_sel w L hL (fun _ _ => true) v hG hn (fun i a x H' H'' ha e hy => Trn.yes (hs i a x H' H'' ha e hy)) fun D H' hD e h => hd D H' hD e (by rw [← selF_t]; exact h)
theorem mpRel {K : PySem.W.Frag} {a : Addr} {R : Hp → V → α → Prop} (mono : ∀ {H H' : Hp} {x : V} {y : α}, Same H H' → R H x y → R H' x y) (xs : List V) (L : List α) (v : α → V) (hS : SqT K H1 a xs) (hp : Paired (R H1) xs L) (hn : L.length ≤ 100000)
    (hs : ∀ x y H', y ∈ L → Same H1 H' → R H' x y → ∀ Z : VK, (∀ H4, Same H' H4 → Z (v y) H4) → g x (wipe σ vs) H' fun σ2 H2 => wipe σ2 vs = wipe σ vs ∧ te σ2 H2 Z)
    (hd : ∀ D H', H1 D = none → Same H1 H' → H' D = some (.lst (L.zipIdx.map fun q => v q.1)) → Q (.ref D) H') : LcG (Itt K a) g tYes te vs σ H1 Q := by
  refine mpSel (walk_tup (xs := xs)) L hp.length.symm (fun _ y => v y) (fun H' e => same_t e hS) (by rw [hp.length]; exact hn) (fun i y x H' H'' hy e hY Z hz => ?_) hd
  obtain ⟨rfl, h2⟩ := hY
  obtain ⟨y', h3, h4⟩ := pd_get hp h2
  rw [hy] at h3
  cases h3
  exact hs x y _ (List.mem_of_getElem? hy) e (mono e h4) Z hz
end
theorem cnt_it (v : Nat) : ∀ L : Lay, (L.map it).countP (fun z => eqV z (nt v)) = cn L v
  | [] => rfl
  | o :: L => by
    have ih := cnt_it v L
    show (it o :: L.map it).countP _ = (o :: L).count (some v)
    rw [List.countP_cons, List.count_cons, ih]
    congr 1
    cases o with
    | none => rfl
    | some u =>
      have : eqV (it (some u)) (nt v) = ((some u : Option Nat) == some v) := by
        show ((u : Int) == (v : Int)) = _
        rw [Bool.eq_iff_iff]
        simp
        omega
      rw [this]
theorem its_flat (L : Lay) : (L.map it).all flatV = true := by
  rw [List.all_eq_true]
  intro x hx
  obtain ⟨o, _, rfl⟩ := List.mem_map.mp hx
  exact it_flat o
end Wm
set_option Elab.async false
set_option linter.all false
set_option maxRecDepth 100000
set_option maxHeartbeats 4000000
/-! draws -/
namespace Wm
open PySem PySem.Spec PyProof.Rows L2
theorem nz1 : (2147483647 : Int) ≠ 0 := by decide
theorem nz2 : (1000000007 : Int) ≠ 0 := by decide
theorem nz3 : (998244353 : Int) ≠ 0 := by decide
theorem sc_law_take : FnScope ["_law_bag_here", "_law_many", "_law_cell", "_law_stirred", "_law_value", "_law_begin", "_law_second"] ["_law_bag_here", "_law_many"] (defScope s_law_take) := ⟨rfl, rfl, rfl, by decide +kernel, rfl, by decide +kernel, by decide +kernel⟩
theorem d_law_take {P : Program} {w : World} {K : PySem.W.Frag} {mg : Str → Option Value} {base : Heap} (W : Wd K mg base) : DnG P w K mg base 1 "_law_take" (sp2 pTake) := by
  refine W.dnG (st := s_law_take) (ps := ["_law_bag_here", "_law_many"]) 20 20 rfl rfl (fun _ _ _ _ _ _ us hl => match us, hl with | [_, _], _ => rfl) fun f fd F => ?_
  refine FnG.ofD F sc_law_take (fun vs H Q E h => ?_) (fun cdv A outer s H vs Q E hg hr h => ?_)
  · obtain ⟨_, _, rfl, _⟩ := h; rfl
  have hu := hr.units
  obtain ⟨x, y, rfl, h⟩ := h
  obtain ⟨b, m, rfl, rfl, ⟨l, ns, hb, hl, hn⟩, m0, m1, q⟩ := h
  refine ⟨_, PSs.nox (pss_bag b l (pss_cons (ps_if (pt_cmpR (op_eqA hu (K := K)) (pe_ix (ix_any (K := K)) (pv 0) pe_int (fun _ _ => rfl)) pe_int (nomark _)) (pss_cons (ps_set (i := 2) sc_law_take.nd rfl (Or.inl rfl) (pe_ix (ix_any (K := K)) (pe_op (op_addA (K := K)) (pe_slice (sl_any (K := K)) (pe_ix (ix_any (K := K)) (pv 0) pe_int (fun _ _ => rfl)) (po_some (pe_ix (ix_any (K := K)) (pv 0) pe_int (fun _ _ => rfl))) po_none) (pe_lst (pa_cons pe_int pa_nil))) pe_int (fun _ _ => rfl)))
      (pss_cons (ps_augS (pv 0) pe_int get_list pe_int ip_add set_list)
      (pss_cons (ps_if (pt_cmpR op_ge (pv 2) (pe_op op_pow pe_int pe_int) (nomark _)) (pss_one (ps_asg (pv 2) (pg_sub (pv 0) pe_int set_list))) pss_nil)
      (pss_cons (ps_set (i := 3) sc_law_take.nd rfl (Or.inl rfl) (pe_op (op_addA (K := K)) (pe_op (op_addA (K := K)) (pe_op op_mul (pe_ix (ix_any (K := K)) (pv 0) pe_int (fun _ _ => rfl)) pe_int) (pe_op op_modN (pe_callTy call_int1 rfl (W.free 74) boot_int (pa_cons (pv 2) pa_nil)) pe_int)) (pe_op op_mul pe_int (pe_ix (ix_any (K := K)) (pv 0) pe_int (fun _ _ => rfl)))))
      (pss_one (ps_asg (pe_op op_modN (pe_callTy call_int1 rfl (W.free 74) boot_int (pa_cons (pv 3) pa_nil)) pe_int) (pg_sub (pv 0) pe_int set_list))))))) pss_nil)
      (pss_cons (ps_if (pt_cmpR op_gt (pe_ix (ix_any (K := K)) (pv 0) pe_int (fun _ _ => rfl)) pe_int (nomark _)) (pss_cons (ps_set (i := 4) sc_law_take.nd rfl (Or.inl rfl) (pe_op op_modN (pe_callTy call_int1 rfl (W.free 74) boot_int (pa_cons (pe_ix (ix_any (K := K)) (pv 0) pe_int (fun _ _ => rfl)) pa_nil)) (pv 1)))
      (pss_cons (ps_asg (pe_op op_fdivN (pe_callTy call_int1 rfl (W.free 74) boot_int (pa_cons (pe_ix (ix_any (K := K)) (pv 0) pe_int (fun _ _ => rfl)) pa_nil)) (pv 1)) (pg_sub (pv 0) pe_int set_list))
      (pss_one (ps_ret (pv 4))))) pss_nil)
      (pss_cons (ps_set (i := 5) sc_law_take.nd rfl (Or.inl rfl) (pe_op op_modN (pe_callTy call_int1 rfl (W.free 74) boot_int (pa_cons (pe_op op_mul (pe_op (op_addA (K := K)) (pe_ix (ix_any (K := K)) (pv 0) pe_int (fun _ _ => rfl)) pe_int) pe_int) pa_nil)) pe_int))
      (pss_cons (ps_set (i := 6) sc_law_take.nd rfl (Or.inl rfl) (pe_op op_modN (pe_callTy call_int1 rfl (W.free 74) boot_int (pa_cons (pe_op op_mul (pe_op op_modN (pe_callTy call_int1 rfl (W.free 74) boot_int (pa_cons (pe_op op_mul (pv 5) (pv 5)) pa_nil)) pe_int) pe_int) pa_nil)) pe_int))
      (pss_one (ps_ret (pe_op op_modN (pe_callTy call_int1 rfl (W.free 74) boot_int (pa_cons (pe_op op_fdivN (pv 6) pe_int) pa_nil)) (pv 1))))))))), ?_⟩
  refine ⟨hb, fun i0 i1 i2 => ?_⟩
  have hlb : l ≠ b := ne_of hl hb (by intro z; cases z)
  have sm0 : ∀ o : HO, Same H (upd (upd H b o) b (BagO b l)) := fun o => by
    rw [upd_upd]
    intro c u e
    by_cases hc : c = b
    · subst hc; rw [upd_same, ← e, hb]
    · rw [upd_ne hc]; exact e
  refine seq_cut (fun σ' H' => (∃ o2 o3 o4 o5 o6, σ' = [some (.ref b), some (nt m), o2, o3, o4, o5, o6]) ∧ ∃ j0 j1 j2, H' b = some (.lst (bagL l j0 j1 j2)) ∧ Same H (upd H' b (BagO b l))) (fun nx hnx => ?_) fun σ' H' ⟨⟨o2, o3, o4, o5, o6, hσ⟩, j0, j1, j2, hb', sm⟩ => ?_
  · refine ⟨_, rfl, .inl ⟨b, _, 0, .int i0, rfl, rfl, SqL.of upd_same, rfl, .inl ⟨rfl, _, rfl, ?_⟩⟩⟩
    refine tst (fun c0 => ?_) fun c0 => ?_
    · refine ⟨_, rfl, .inl ⟨b, _, 3, .ref l, rfl, rfl, SqL.of upd_same, rfl, _, rfl, .inl ⟨b, _, 2, .int i2, rfl, rfl, SqL.of upd_same, rfl, i2, rfl, .inl ⟨l, ns.map V.int, rfl, SqL.of (by rw [upd_ne hlb]; exact hl), fun p hp => ?_⟩⟩⟩⟩
      have hpb : b ≠ p := fun z => by rw [← z, upd_same] at hp; cases hp
      have hpl : l ≠ p := fun z => by rw [← z, upd_ne hlb, hl] at hp; cases hp
      refine ⟨by show 1 ≤ sizeLine; decide, fun p2 hp2 => ?_⟩
      have hpb2 : b ≠ p2 := fun z => by rw [← z, upd_ne hpb, upd_same] at hp2; cases hp2
      have hpp2 : p ≠ p2 := fun z => by rw [← z, upd_same] at hp2; cases hp2
      refine .inr (.inl ⟨p, p2, _, _, rfl, rfl, by rw [upd_ne hpp2]; exact upd_same, upd_same, ?_, fun p3 hp3 => ?_⟩)
      · have h1 := cutV_length (ns.map V.int) (some i2) none
        rw [List.length_map] at h1
        show _ + 1 ≤ 16777216
        omega
      have hpb3 : b ≠ p3 := fun z => by rw [← z, upd_ne hpb2, upd_ne hpb, upd_same] at hp3; cases hp3
      obtain ⟨cell, hcell⟩ : ∃ c : Int, (cutV (ns.map V.int) (some i2) none ++ [V.int 0])[0]? = some (.int c) := by
        have h0 : ∀ x ∈ cutV (ns.map V.int) (some i2) none ++ [V.int 0], ∃ c : Int, x = .int c := by
          intro x hx
          rcases List.mem_append.mp hx with hx | hx
          · obtain ⟨c, _, e⟩ := List.mem_map.mp (List.mem_of_mem_drop (List.mem_of_mem_take hx))
            exact ⟨c, e.symm⟩
          · exact ⟨0, by simpa using hx⟩
        cases hc : cutV (ns.map V.int) (some i2) none ++ [V.int 0] with
        | nil => simp at hc
        | cons x r =>
          obtain ⟨c, e⟩ := h0 x (by rw [hc]; simp)
          exact ⟨c, by rw [e]; rfl⟩
      refine .inl ⟨p3, _, 0, .int cell, rfl, rfl, SqL.of upd_same, atI_nat hcell, ?_⟩
      have hB : ∀ H', H' = upd (upd (upd (upd H b (HO.lst (bagL l i0 i1 i2))) p (.lst (cutV (ns.map V.int) (some i2) none))) p2 (.lst [.int 0])) p3 (.lst (cutV (ns.map V.int) (some i2) none ++ [.int 0])) → H' b = some (.lst (bagL l i0 i1 i2)) ∧ Same H (upd H' b (BagO b l)) := by
        rintro _ rfl
        have nb : ∀ c u, H c = some u → c ≠ b → c ≠ p ∧ c ≠ p2 ∧ c ≠ p3 := fun c u e hc => by
          have h1 : c ≠ p := fun z => by rw [← z, upd_ne hc, e] at hp; cases hp
          have h2 : c ≠ p2 := fun z => by rw [← z, upd_ne h1, upd_ne hc, e] at hp2; cases hp2
          exact ⟨h1, h2, fun z => by rw [← z, upd_ne h2, upd_ne h1, upd_ne hc, e] at hp3; cases hp3⟩
        refine ⟨by rw [upd_ne hpb3, upd_ne hpb2, upd_ne hpb, upd_same], fun c u e => ?_⟩
        by_cases hc : c = b
        · subst hc; rw [upd_same, ← e, hb]
        · obtain ⟨h1, h2, h3⟩ := nb c u e hc
          rw [upd_ne hc, upd_ne h3, upd_ne h2, upd_ne h1, upd_ne hc]; exact e
      generalize hH3 : upd (upd (upd (upd H b (HO.lst (bagL l i0 i1 i2))) p (.lst (cutV (ns.map V.int) (some i2) none))) p2 (.lst [.int 0])) p3 (.lst (cutV (ns.map V.int) (some i2) none ++ [.int 0])) = H3
      obtain ⟨g1, g2⟩ := hB H3 hH3.symm
      have g3 : ∀ o : HO, Same H (upd (upd H3 b o) b (BagO b l)) := fun o => by rw [upd_upd]; exact g2
      clear hB hH3
      refine ⟨_, rfl, b, _, 2, .int i2, rfl, rfl, SqL.of g1, rfl, by decide, _, _, rfl, rfl, b, _, _, 2, rfl, rfl, g1, rfl, ?_⟩
      dsimp only [List.set_cons_succ, List.set_cons_zero]
      refine seq_cut (fun σ' H' => (∃ o3, σ' = [some (.ref b), some (nt m), some (.int cell), o3, none, none, none]) ∧ ∃ j0 j1 j2, H' b = some (.lst (bagL l j0 j1 j2)) ∧ Same H (upd H' b (BagO b l))) (fun nx' hnx' => ?_) fun σ' H' ⟨⟨o3, hσ⟩, j0, j1, j2, hb', sm⟩ => ?_
      · refine ⟨_, rfl, _, _, rfl, rfl, ⟨by decide, by decide, by decide⟩, _, _, rfl, rfl, _, rfl, ?_⟩
        refine tst (fun c1 => ?_) fun c1 => ?_
        · refine ⟨_, rfl, _, rfl, b, _, _, 0, rfl, rfl, upd_same, rfl, ?_⟩
          exact hnx' _ _ ⟨⟨_, rfl⟩, cell, _, _, upd_same, by rw [upd_upd]; exact g3 _⟩
        · exact hnx' _ _ ⟨⟨_, rfl⟩, i0, i1, _, upd_same, g3 _⟩
      · subst hσ
        refine ⟨_, rfl, .inl ⟨b, _, 1, .int j1, rfl, rfl, SqL.of hb', rfl, _, _, rfl, rfl, .inr ⟨by decide, by decide⟩, _, rfl, .inl ⟨_, rfl, _, _, rfl, rfl, nz1, .inl ⟨_, _, rfl, rfl, ?_⟩⟩⟩⟩
        refine ⟨_, rfl, .inl ⟨b, _, 2, .int j2, rfl, rfl, SqL.of hb', rfl, _, _, rfl, rfl, .inl ⟨by decide, by decide⟩, .inl ⟨_, _, rfl, rfl, ?_⟩⟩⟩
        refine ⟨_, rfl, .inl ⟨_, rfl, _, _, rfl, rfl, nz1, _, rfl, b, _, _, 1, rfl, rfl, hb', rfl, ?_⟩⟩
        exact hnx _ _ ⟨⟨_, _, _, _, _, rfl⟩, j0, _, j2, upd_same, by rw [upd_upd]; exact sm⟩
    · exact hnx _ _ ⟨⟨_, _, _, _, _, rfl⟩, i0, i1, i2, upd_same, sm0 _⟩
  · subst hσ
    have mI : (0 : Int) < (m : Int) := by omega
    have fin : ∀ z : Int, ∃ r : Nat, r < m ∧ Int.fmod z (m : Int) = (r : Int) := fun z => by
      have h1 := Int.fmod_nonneg_of_pos z mI
      have h2 := Int.fmod_lt_of_pos z mI
      exact ⟨(Int.fmod z m).toNat, by omega, by omega⟩
    refine ⟨_, rfl, .inl ⟨b, _, 0, .int j0, rfl, rfl, SqL.of hb', rfl, _, _, rfl, rfl, _, rfl, ?_⟩⟩
    refine tst (fun c2 => ?_) fun c2 => ?_
    · refine ⟨_, rfl, .inl ⟨b, _, 0, .int j0, rfl, rfl, SqL.of hb', rfl, .inl ⟨_, rfl, _, rfl, _, _, rfl, rfl, by omega, ?_⟩⟩⟩
      refine ⟨_, rfl, .inl ⟨b, _, 0, .int j0, rfl, rfl, SqL.of hb', rfl, .inl ⟨_, rfl, _, rfl, _, _, rfl, rfl, ⟨by omega, by omega⟩, _, rfl, b, _, _, 0, rfl, rfl, hb', rfl, ?_⟩⟩⟩
      obtain ⟨r, hr, e⟩ := fin j0
      refine ⟨_, rfl, _, _, _, upd_same, ?_⟩
      show Q (.int (j0.fmod m)) _
      rw [upd_upd, e]
      exact q _ r sm hr
    · refine ⟨_, rfl, .inl ⟨b, _, 1, .int j1, rfl, rfl, SqL.of hb', rfl, .inl ⟨_, _, rfl, rfl, _, _, rfl, rfl, .inr ⟨by decide, by decide⟩, .inl ⟨_, rfl, _, _, rfl, rfl, nz2, ?_⟩⟩⟩⟩
      have hB1 := Int.fmod_nonneg_of_pos ((j1 + 1) * 39373) (show (0 : Int) < 1000000007 by decide)
      have hB2 := Int.fmod_lt_of_pos ((j1 + 1) * 39373) (show (0 : Int) < 1000000007 by decide)
      refine ⟨_, rfl, _, rfl, _, _, rfl, rfl, .inl ⟨by omega, by omega⟩, .inl ⟨_, rfl, _, _, rfl, rfl, nz3, _, _, rfl, rfl, .inr ⟨by decide, by decide⟩, .inl ⟨_, rfl, _, _, rfl, rfl, nz3, ?_⟩⟩⟩
      refine ⟨_, rfl, _, _, rfl, rfl, ⟨by decide, by decide⟩, .inl ⟨_, rfl, _, rfl, _, _, rfl, rfl, (by omega : (m : Int) ≠ 0), j0, j1, j2, hb', ?_⟩⟩
      have hfin : ∀ z : Int, ∃ r : Nat, r < m ∧ V.int (Int.fmod z (m : Int)) = nt r := fun z => let ⟨r, h1, h2⟩ := fin z; ⟨r, h1, by rw [h2]⟩
      obtain ⟨r, hr, e⟩ := hfin (Int.fdiv (Int.fmod (Int.fmod (Int.fmod ((j1 + 1) * 39373) 1000000007 * Int.fmod ((j1 + 1) * 39373) 1000000007) 998244353 * 30011) 998244353) 7)
      refine Eq.mpr (congrArg (fun z => Q z (upd H' b (BagO b l))) e) ?_
      exact q _ r sm hr
theorem sc_law_some : FnScope ["_law_bag_here", "_law_things"] ["_law_bag_here", "_law_things"] (defScope s_law_some) := ⟨rfl, rfl, rfl, by decide +kernel, rfl, by decide +kernel, by decide +kernel⟩
theorem d_law_some {P : Program} {w : World} {K : PySem.W.Frag} {mg : Str → Option Value} {base : Heap} (W : Wd K mg base) : DnG P w K mg base 2 "_law_some" (sp2 (pSome K)) := by
  refine W.dnG (st := s_law_some) (ps := ["_law_bag_here", "_law_things"]) 21 21 rfl rfl (fun _ _ _ _ _ _ us hl => match us, hl with | [_, _], _ => rfl) fun f fd F => ?_
  refine FnG.ofD F sc_law_some (fun vs H Q E h => ?_) (fun cdv A outer s H vs Q E hg hr h => ?_)
  · obtain ⟨_, _, rfl, _⟩ := h; rfl
  obtain ⟨x, y, rfl, h⟩ := h
  refine ⟨_, PSs.nox (pss_one (ps_ret (pe_ix (ix_any (K := K)) (pv 1) (pe_fnG (d_law_take W) hg (hr.mono (by decide)) rfl (pa_cons (pv 0) (pa_cons (pe_callB (call_lenK (K := K)) rfl (W.free 71) PySem.boot_len (pa_cons (pv 1) pa_nil)) pa_nil))) (fun _ _ => rfl)))), ?_⟩
  rw [show L2.start ["_law_bag_here", "_law_things"] [x, y] = [some x, some y] from rfl]
  obtain ⟨b, a, xs, rfl, rfl, hb, ha, hne, hl, q⟩ := h
  have h0 : 0 < xs.length := by cases xs with | nil => exact absurd rfl hne | cons _ _ => simp
  refine ⟨_, rfl, _, rfl, _, rfl, a, xs, rfl, .inl ha, _, _, rfl, b, xs.length, rfl, rfl, hb, h0, by omega, fun H' r sm hr => ?_⟩
  exact .inl ⟨a, xs, _, xs[r], rfl, rfl, sm.seq ha, atI_nat (List.getElem?_eq_getElem hr), q H' _ sm (List.getElem_mem hr)⟩
theorem sc_law_mixed : FnScope ["_law_bag_here", "_law_things", "_law_found", "_law_thing"] ["_law_bag_here", "_law_things"] (defScope s_law_mixed) := ⟨rfl, rfl, rfl, by decide +kernel, rfl, by decide +kernel, by decide +kernel⟩
theorem d_law_mixed {P : Program} {w : World} {K : PySem.W.Frag} {mg : Str → Option Value} {base : Heap} (W : Wd K mg base) : DnG P w K mg base 2 "_law_mixed" (sp2 (pMixed K)) := by
  refine W.dnG (st := s_law_mixed) (ps := ["_law_bag_here", "_law_things"]) 22 22 rfl rfl (fun _ _ _ _ _ _ us hl => match us, hl with | [_, _], _ => rfl) fun f fd F => ?_
  refine FnG.ofD F sc_law_mixed (fun vs H Q E h => ?_) (fun cdv A outer s H vs Q E hg hr h => ?_)
  · obtain ⟨_, _, rfl, _⟩ := h; rfl
  obtain ⟨x, y, rfl, h⟩ := h
  refine ⟨_, PSs.nox (pss_cons (ps_set (i := 2) sc_law_mixed.nd rfl (Or.inl rfl) (pe_lst pa_nil))
      (pss_cons (ps_for PassesOwn.never rfl (pi_listK (K := K) (pv 1)) (pg_name (i := 3) sc_law_mixed.nd rfl (Or.inl rfl)) (pss_one (ps_expr (pe_bmK (K := K) PySem.F.plainAttrs_list PySem.F.slot_list_insert PySem.F.type_list_insert mt_insert (pv 2) (pa_cons (pe_fnG (d_law_take W) hg (hr.mono (by decide)) rfl (pa_cons (pv 0) (pa_cons (pe_op (op_addA (K := K)) (pe_callB (call_lenK (K := K)) rfl (W.free 71) PySem.boot_len (pa_cons (pv 2) pa_nil)) pe_int) pa_nil))) (pa_cons (pv 3) pa_nil))))))
      (pss_one (ps_ret (pv 2))))), ?_⟩
  rw [show L2.start ["_law_bag_here", "_law_things", "_law_found", "_law_thing"] [x, y] = [some x, some y, none, none] from rfl]
  obtain ⟨b, a, xs, rfl, rfl, hb, ha, hl, q⟩ := h
  refine ⟨by decide, fun p hp => ?_⟩
  refine ⟨_, rfl, a, rfl, ⟨xs, (Same.new hp).seq ha⟩, for_list (xs := xs) (fun i σ H' => (∃ o3, σ = [some (.ref b), some (.ref a), some (.ref p), o3]) ∧ Same H H' ∧ ∃ ys, H' p = some (.lst ys) ∧ ys.Perm (xs.take i)) ?_ ?_ ?_ ?_⟩
  · exact ⟨⟨_, rfl⟩, Same.new hp, [], upd_same, .nil⟩
  · exact fun i σ H' _ hP => hP.2.1.seq ha
  · rintro i x σ H' hx ⟨⟨o3, rfl⟩, sm, ys, hy, pm⟩
    have hyl : ys.length = i := by rw [pm.length_eq, List.length_take]; have := (List.getElem?_eq_some_iff.mp hx).1; omega
    have hil := (List.getElem?_eq_some_iff.mp hx).1
    refine ⟨_, rfl, .inl ⟨rfl, _, SqL.of hy⟩, _, rfl, _, rfl, p, ys, rfl, .inl (SqL.of hy), .inl ⟨_, _, rfl, rfl, _, _, rfl, b, ys.length + 1, rfl, rfl, hb.mono sm, by omega, by omega, fun H2 r s2 hr => ?_⟩⟩
    refine ⟨_, rfl, p, ys, _, _, rfl, rfl, s2 _ _ hy, by show _ < 16777216; omega, by omega, by omega, ⟨_, rfl⟩, Same.mut (sm.trans s2) hp, _, upd_same, ?_⟩
    have e1 : xs.take (i + 1) = xs.take i ++ [x] := by rw [List.take_add_one, hx]; rfl
    rw [e1]
    have e2 : (ys.take (r : Int).toNat ++ [x] ++ ys.drop (r : Int).toNat).Perm (x :: ys) := by
      have := List.take_append_drop (r : Int).toNat ys
      calc (ys.take (r : Int).toNat ++ [x] ++ ys.drop (r : Int).toNat).Perm (x :: (ys.take (r : Int).toNat ++ ys.drop (r : Int).toNat)) := by
            rw [List.append_assoc]; exact List.perm_middle
        _ = (x :: ys) := by rw [this]
    exact e2.trans (((List.Perm.cons x pm)).trans (List.perm_append_comm (l₁ := [x])))
  · rintro σ H' ⟨⟨o3, rfl⟩, sm, ys, hy, pm⟩
    refine ⟨_, rfl, q H' p ys sm hp hy ?_⟩
    rwa [List.take_length] at pm
end Wm
set_option Elab.async false
set_option linter.all false
set_option maxRecDepth 100000
set_option maxHeartbeats 4000000
/-! the law's plain helpers -/
namespace Wm
open PySem PySem.Spec PyProof.Rows L2
theorem sc_law_standings : FnScope ["_law_needs_here", "_law_layout", "_law_value", "_law_item"] ["_law_needs_here", "_law_layout"] (defScope s_law_standings) := ⟨rfl, rfl, rfl, by decide +kernel, rfl, by decide +kernel, by decide +kernel⟩
theorem d_law_standings {P : Program} {w : World} {K : PySem.W.Frag} {mg : Str → Option Value} {base : Heap} (W : Wd K mg base) : DnG P w K mg base 1 "_law_standings" (sp2 (pStand K)) := by
  refine W.dnG (st := s_law_standings) (ps := ["_law_needs_here", "_law_layout"]) 24 24 rfl rfl (fun _ _ _ _ _ _ us hl => match us, hl with | [_, _], _ => rfl) fun f fd F => ?_
  refine FnG.ofD F sc_law_standings (fun vs H Q E h => ?_) (fun cdv A outer s H vs Q E hg hr h => ?_)
  · obtain ⟨_, _, rfl, _⟩ := h; rfl
  have hu := hr.units
  obtain ⟨x, y, rfl, h⟩ := h
  refine ⟨_, PSs.nox (pss_one (ps_ret (pe_lc (own := [("_law_value", 2)]) rfl sc_law_standings.nd (pi_range1 rfl (W.free 72) (pa_cons (pe_callB (call_lenK (K := K)) rfl (W.free 71) PySem.boot_len (pa_cons (pv 0) pa_nil)) pa_nil)) (blkOk_by (by kernel_rfl)) (fun _ _ _ _ _ => (pg_name (i := 2) sc_law_standings.nd rfl (Or.inr rfl))) (fun _ _ _ _ _ => pts_nil) (fun _ _ _ _ _ => (pe_callB (call_lenK (K := K)) rfl (W.free 71) PySem.boot_len (pa_cons (pe_lc (own := [("_law_item", 3)]) rfl sc_law_standings.nd (pi_or (pi_listK (K := K) (pv 1)) (pi_tupK (K := K) (pv 1))) (blkOk_by (by kernel_rfl)) (fun _ _ _ _ _ => (pg_name (i := 3) sc_law_standings.nd rfl (Or.inl rfl))) (fun _ _ _ _ _ => (pts_one (pt_cmpR (op_eqA hu (K := K)) (pv 3) (pv 2) (nomark _)))) (fun _ _ _ _ _ => (pv 3))) pa_nil)))))), ?_⟩
  rw [show L2.start ["_law_needs_here", "_law_layout", "_law_value", "_law_item"] [x, y] = [some x, some y, none, none] from rfl]
  obtain ⟨ns, L, ⟨c, rfl, hc⟩, ⟨a, rfl, ha⟩, hn, hl, q⟩ := h
  have e0 : ((ns.map nt).length : Int).toNat = ns.length := by simp
  refine lcI ⟨_, rfl, c, _, rfl, .inr hc, _, rfl, by simp, by simp; omega, ?_⟩
  rw [e0]
  refine mpR ns.length (fun v => nt (cn L v)) (by omega) (fun v H1 hv e1 Z hz => ?_) fun D H1 hD e1 h1 => q H1 D e1 hD h1
  refine ⟨rfl, cb1 (lcI ?_)⟩
  have fin : ∀ (D : Addr) (H2 : Hp), H1 D = none → Same H1 H2 → H2 D = some (.lst ((L.filter fun x => decide (it x = nt v)).map it)) → ∃ p ys, [V.ref D] = [.ref p] ∧ (SqL K H2 p ys ∨ SqT K H2 p ys) ∧ Z (.int (ys.length : Nat)) H2 := fun D H2 _ e2 h2 => by
    refine ⟨D, _, rfl, .inl (SqL.of h2), ?_⟩
    rw [List.length_map, flt_cnt]
    exact hz H2 e2
  rcases ha with ha | ha
  · refine .inl ⟨_, rfl, a, rfl, ⟨_, e1.seq ha⟩, lcL L it _ it (e1.seq ha) (by omega) (fun x H2 _ e2 Z' N' hz' hN' => ?_) fin⟩
    exact ⟨rfl, _, rfl, _, rfl, .inl ⟨it_scal x (some v), _, rfl, tst (fun c => ⟨_, rfl, hz' _ c (Same.refl _)⟩) fun c => hN' _ c (Same.refl _)⟩⟩
  · refine .inr ⟨_, rfl, a, rfl, ⟨_, same_t e1 ha⟩, lcT L it _ it (same_t e1 ha) (by omega) (fun x H2 _ e2 Z' N' hz' hN' => ?_) fin⟩
    exact ⟨rfl, _, rfl, _, rfl, .inl ⟨it_scal x (some v), _, rfl, tst (fun c => ⟨_, rfl, hz' _ c (Same.refl _)⟩) fun c => hN' _ c (Same.refl _)⟩⟩
theorem sc_law_rooms : FnScope ["_law_needs_here", "_law_layout", "_law_many", "_law_need"] ["_law_needs_here", "_law_layout"] (defScope s_law_rooms) := ⟨rfl, rfl, rfl, by decide +kernel, rfl, by decide +kernel, by decide +kernel⟩
theorem d_law_rooms {P : Program} {w : World} {K : PySem.W.Frag} {mg : Str → Option Value} {base : Heap} (W : Wd K mg base) : DnG P w K mg base 2 "_law_rooms" (sp2 (pRooms K)) := by
  refine W.dnG (st := s_law_rooms) (ps := ["_law_needs_here", "_law_layout"]) 25 25 rfl rfl (fun _ _ _ _ _ _ us hl => match us, hl with | [_, _], _ => rfl) fun f fd F => ?_
  refine FnG.ofD F sc_law_rooms (fun vs H Q E h => ?_) (fun cdv A outer s H vs Q E hg hr h => ?_)
  · obtain ⟨_, _, rfl, _⟩ := h; rfl
  obtain ⟨x, y, rfl, h⟩ := h
  refine ⟨_, PSs.nox (pss_one (ps_ret (pe_lc (own := [("_law_many", 2), ("_law_need", 3)]) rfl sc_law_rooms.nd (pi_zipM rfl (W.free 79) (pa_cons (pe_fnG (d_law_standings W) hg (hr.mono (by decide)) rfl (pa_cons (pv 0) (pa_cons (pv 1) pa_nil))) (pa_cons (pv 0) pa_nil))) (blkOk_by (by kernel_rfl)) (fun _ _ _ _ _ => (pg_tupK (K := K) (n := 2) rfl (pgs_cons (pg_name (i := 2) sc_law_rooms.nd rfl (Or.inl rfl)) (pgs_cons (pg_name (i := 3) sc_law_rooms.nd rfl (Or.inl rfl)) pgs_nil)))) (fun _ _ _ _ _ => pts_nil) (fun _ _ _ _ _ => (pe_op op_sub (pv 2) (pv 3)))))), ?_⟩
  rw [show L2.start ["_law_needs_here", "_law_layout", "_law_many", "_law_need"] [x, y] = [some x, some y, none, none] from rfl]
  obtain ⟨ns, L, hc, ha, hn, hl, q⟩ := h
  refine lcI ⟨_, rfl, _, rfl, _, _, rfl, ns, L, hc, ha, hn, hl, fun H1 p e1 hp h1 => ?_⟩
  obtain ⟨c, rfl, hc⟩ := hc
  have hz : ∀ H2, Same H1 H2 → SqL K H2 p (((List.range ns.length).map fun v => (cn L v, ns.getD v 0)).map fun q => nt q.1) := fun H2 e => .inl (.inl (by rw [e _ _ h1, List.map_map]; rfl))
  have hT : SqT K H1 c (((List.range ns.length).map fun v => (cn L v, ns.getD v 0)).map fun q => nt q.2) := by
    have : ((List.range ns.length).map fun v => (cn L v, ns.getD v 0)).map (fun q => nt q.2) = ns.map nt := by
      rw [List.map_map]
      refine List.ext_getElem (by simp) fun i h1 h2 => ?_
      simp at h1 h2 ⊢
      rw [List.getElem?_eq_getElem (by omega)]
      simp
    rw [this]
    exact same_t e1 hc
  refine ⟨_, rfl, p, c, _, _, rfl, hz H1 (Same.refl _), hT, ?_⟩
  refine mpZ ((List.range ns.length).map fun v => (cn L v, ns.getD v 0)) nt nt (fun q => .int ((q.1 : Nat) - (q.2 : Nat) : Int)) (hz H1 (Same.refl _)) hT (by simp; omega) (fun x T H2 hx e2 hT2 Z hz2 => ?_) fun D H2 hD e2 h2 => q H2 D (e1.trans e2) (ne_none_of e1 hD) (by rw [h2, List.map_map, List.map_map]; rfl)
  refine ⟨T, _, rfl, SqT.of upd_same, rfl, _, _, rfl, _, _, rfl, rfl, rfl, ?_⟩
  exact ⟨_, rfl, _, rfl, _, _, rfl, rfl, hz2 _ (Same.new hT2)⟩
theorem sc_law_is_right : FnScope ["_law_needs_here", "_law_layout", "_law_item", "_law_room"] ["_law_needs_here", "_law_layout"] (defScope s_law_is_right) := ⟨rfl, rfl, rfl, by decide +kernel, rfl, by decide +kernel, by decide +kernel⟩
theorem d_law_is_right {P : Program} {w : World} {K : PySem.W.Frag} {mg : Str → Option Value} {base : Heap} (W : Wd K mg base) : DnG P w K mg base 3 "_law_is_right" (sp2 (pIsRight K)) := by
  refine W.dnG (st := s_law_is_right) (ps := ["_law_needs_here", "_law_layout"]) 26 26 rfl rfl (fun _ _ _ _ _ _ us hl => match us, hl with | [_, _], _ => rfl) fun f fd F => ?_
  refine FnG.ofD F sc_law_is_right (fun vs H Q E h => ?_) (fun cdv A outer s H vs Q E hg hr h => ?_)
  · obtain ⟨_, _, rfl, _⟩ := h; rfl
  have hu := hr.units
  obtain ⟨x, y, rfl, h⟩ := h
  refine ⟨_, PSs.nox (pss_cons (ps_if (pt_cmpR (op_neA hu (K := K)) (pe_lc (own := [("_law_item", 2)]) rfl sc_law_is_right.nd (pi_listK (K := K) (pv 1)) (blkOk_by (by kernel_rfl)) (fun _ _ _ _ _ => (pg_name (i := 2) sc_law_is_right.nd rfl (Or.inl rfl))) (fun _ _ _ _ _ => (pts_one (PW.pt (pw_and (pt_cmpR op_notN (pv 2) pe_non (nomark _)) (pw_and1 (pt_cmpR op_notin_rng (pv 2) (pe_callTy cr_range1 rfl (W.free 72) boot_range (pa_cons (pe_callB (call_lenK (K := K)) rfl (W.free 71) PySem.boot_len (pa_cons (pv 0) pa_nil)) pa_nil)) (by rfl))))))) (fun _ _ _ _ _ => (pv 2))) (pe_lst pa_nil) (nomark _)) (pss_one (ps_ret pe_bl)) pss_nil)
      (pss_one (ps_ret (pe_cmpR (op_eqA hu (K := K)) (pe_lc (own := [("_law_room", 3)]) rfl sc_law_is_right.nd (pi_listK (K := K) (pe_fnG (d_law_rooms W) hg (hr.mono (by decide)) rfl (pa_cons (pv 0) (pa_cons (pv 1) pa_nil)))) (blkOk_by (by kernel_rfl)) (fun _ _ _ _ _ => (pg_name (i := 3) sc_law_is_right.nd rfl (Or.inl rfl))) (fun _ _ _ _ _ => (pts_one (pt_cmpR op_lt (pv 3) pe_int (nomark _)))) (fun _ _ _ _ _ => (pv 3))) (pe_lst pa_nil) (nomark _))))), ?_⟩
  rw [show L2.start ["_law_needs_here", "_law_layout", "_law_item", "_law_room"] [x, y] = [some x, some y, none, none] from rfl]
  obtain ⟨ns, L, ⟨c, rfl, hc⟩, ⟨a, rfl, ha⟩, hn, hl, q⟩ := h
  refine sqI (ifI (ttI (opI (lcI ⟨_, rfl, a, rfl, ⟨_, ha⟩, lcL L it (fun o => !okO ns.length o) it ha (by omega) (fun x H1 _ e1 Z N hz hN => ?_) fun D H1 hD e1 h1 => ?_⟩))))
  · refine ⟨rfl, ?_⟩
    cases x with
    | none => exact ⟨_, rfl, rfl, _, rfl, iteF (hN _ rfl (Same.refl _))⟩
    | some v =>
      refine ⟨_, rfl, rfl, _, rfl, iteT ⟨_, rfl, _, rfl, c, _, rfl, .inr (same_t e1 hc), _, rfl, fun p hp => ⟨_, p, _, _, rfl, rfl, upd_same, _, rfl, ?_⟩⟩⟩
      have e2 : (!decide ((0 : Int) ≤ (v : Int) ∧ (v : Int) < ((ns.map nt).length : Nat))) = !okO ns.length (some v) := by
        show _ = !decide (v < ns.length)
        congr 1
        rw [List.length_map]
        refine decide_eq_decide.mpr ⟨fun h => by omega, fun h => by omega⟩
      exact tst (fun c => ⟨_, rfl, hz _ (e2 ▸ c) (Same.new hp)⟩) fun c => hN _ (e2 ▸ c) (Same.new hp)
  · refine ⟨by decide, fun p hp => neNilO _ ((Same.new hp).seq (SqL.of h1)) (SqL.of upd_same) ⟨_, rfl, ?_⟩⟩
    have s1 : Same H (upd H1 p (.lst [])) := Same.new' e1 hp
    refine tst (fun c1 => ?_) fun c1 => ?_
    · have e : rightB ns L = false := by unfold rightB; cases h : (L.filter fun o => !okO ns.length o).isEmpty with
        | true => rw [h] at c1; cases c1
        | false => rfl
      exact e ▸ q _ s1
    · have c2 : (L.filter fun o => !okO ns.length o).isEmpty = true := by simpa using c1
      refine nxI ?_
      dsimp only [List.set_cons_succ, List.set_cons_zero]
      refine rtI (opI (lcI ⟨_, rfl, _, rfl, _, _, rfl, ns, L, ⟨c, rfl, same_t s1 hc⟩, LyL.a ⟨a, rfl, s1.seq ha⟩, hn, hl, fun H2 p2 e2 hp2 h2 => ?_⟩))
      refine ⟨p2, rfl, ⟨_, SqL.of h2⟩, lcL (rms ns L) V.int (fun z => decide (z < 0)) V.int (SqL.of h2) (by simp; omega) (fun z H3 _ e3 Z N hz hN => ?_) fun D2 H3 hD2 e3 h3 => ?_⟩
      · exact ⟨rfl, _, rfl, _, _, rfl, rfl, _, rfl, tst (fun c => ⟨_, rfl, hz _ c (Same.refl _)⟩) fun c => hN _ c (Same.refl _)⟩
      · refine ⟨by decide, fun p3 hp3 => eqNilI _ ((Same.new hp3).seq (SqL.of h3)) (SqL.of upd_same) ?_⟩
        have e : rightB ns L = ((rms ns L).filter fun z => decide (z < 0)).isEmpty := by unfold rightB; rw [c2]; rfl
        exact e ▸ q _ (Same.new' (s1.trans (e2.trans e3)) hp3)
theorem sc_law_with_room : FnScope ["_law_needs_here", "_law_layout", "_law_left", "_law_at", "_law_item"] ["_law_needs_here", "_law_layout"] (defScope s_law_with_room) := ⟨rfl, rfl, rfl, by decide +kernel, rfl, by decide +kernel, by decide +kernel⟩
theorem d_law_with_room {P : Program} {w : World} {K : PySem.W.Frag} {mg : Str → Option Value} {base : Heap} (W : Wd K mg base) : DnG P w K mg base 3 "_law_with_room" (sp2 (pWithRoom K)) := by
  refine W.dnG (st := s_law_with_room) (ps := ["_law_needs_here", "_law_layout"]) 27 27 rfl rfl (fun _ _ _ _ _ _ us hl => match us, hl with | [_, _], _ => rfl) fun f fd F => ?_
  refine FnG.ofD F sc_law_with_room (fun vs H Q E h => ?_) (fun cdv A outer s H vs Q E hg hr h => ?_)
  · obtain ⟨_, _, rfl, _⟩ := h; rfl
  obtain ⟨x, y, rfl, h⟩ := h
  refine ⟨_, PSs.nox (pss_cons (ps_set (i := 2) sc_law_with_room.nd rfl (Or.inr rfl) (pe_fnG (d_law_rooms W) hg (hr.mono (by decide)) rfl (pa_cons (pv 0) (pa_cons (pv 1) pa_nil))))
      (pss_one (ps_ret (pe_lc (own := [("_law_at", 3), ("_law_item", 4)]) rfl sc_law_with_room.nd (pi_enumT rfl (W.free 78) (pa_cons (pv 1) pa_nil)) (blkOk_by (by kernel_rfl)) (fun _ _ _ _ _ => (pg_tupK (K := K) (n := 2) rfl (pgs_cons (pg_name (i := 3) sc_law_with_room.nd rfl (Or.inl rfl)) (pgs_cons (pg_name (i := 4) sc_law_with_room.nd rfl (Or.inl rfl)) pgs_nil)))) (fun _ _ _ _ _ => (pts_one (PW.pt (pw_or (pt_cmpR op_isN (pv 4) pe_non (nomark _)) (pw_or1 (pt_cmpR op_gt (pe_ix (ix_any (K := K)) (pv 2) (pv 4) (fun _ _ => rfl)) pe_int (nomark _))))))) (fun _ _ _ _ _ => (pv 3)))))), ?_⟩
  rw [show L2.start ["_law_needs_here", "_law_layout", "_law_left", "_law_at", "_law_item"] [x, y] = [some x, some y, none, none, none] from rfl]
  obtain ⟨ns, L, ⟨c, rfl, hc⟩, ⟨a, rfl, ha⟩, hn, hl, hv, q⟩ := h
  refine sqI (asI ⟨_, rfl, _, rfl, _, _, rfl, ns, L, ⟨c, rfl, hc⟩, LyT.a ⟨a, rfl, ha⟩, hn, hl, fun H1 p1 e1 hp1 h1 => ?_⟩)
  dsimp only [List.set_cons_succ, List.set_cons_zero]
  refine rtI (lcI ⟨_, rfl, a, _, rfl, same_t e1 ha, lcE L it (fun _ o => match o with | none => true | some v => decide (0 < (rms ns L).getD v 0)) (fun i _ => nt i) (same_t e1 ha) (by omega) (fun i x T H2 hx e2 hT Z N hz hN => ?_) fun D H2 hD e2 h2 => q H2 D (e1.trans e2) (ne_none_of e1 hD) (by rw [h2]; exact congrArg (fun z => some (HO.lst z)) (pos_nt _ L))⟩)
  refine ⟨T, _, rfl, SqT.of upd_same, rfl, _, _, rfl, _, _, rfl, rfl, rfl, ?_⟩
  cases x with
  | none => exact ⟨_, rfl, rfl, _, rfl, iteT ⟨_, rfl, hz _ rfl (Same.new hT)⟩⟩
  | some v =>
    have hvn := hv v (List.mem_of_getElem? hx)
    have hv2 : ((rms ns L).map V.int)[v]? = some (.int ((rms ns L).getD v 0)) := by
      rw [List.getElem?_map, List.getD_eq_getElem?_getD, List.getElem?_eq_getElem (by simpa using hvn)]; rfl
    refine ⟨_, rfl, rfl, _, rfl, iteF ⟨_, rfl, _, rfl, .inl ⟨p1, _, _, _, rfl, rfl, (Same.new hT).seq (e2.seq (SqL.of h1)), atI_nat hv2, _, _, rfl, rfl, _, rfl, ?_⟩⟩⟩
    exact tst (fun c => ⟨_, rfl, hz _ c (Same.new hT)⟩) fun c => hN _ c (Same.new hT)
theorem sc_law_led : FnScope ["_law_layout", "_law_stretch", "_law_found", "_law_place", "_law_source"] ["_law_layout", "_law_stretch"] (defScope s_law_led) := ⟨rfl, rfl, rfl, by decide +kernel, rfl, by decide +kernel, by decide +kernel⟩
theorem d_law_led {P : Program} {w : World} {K : PySem.W.Frag} {mg : Str → Option Value} {base : Heap} (W : Wd K mg base) : DnG P w K mg base 1 "_law_led" (sp2 (pLed K)) := by
  refine W.dnG (st := s_law_led) (ps := ["_law_layout", "_law_stretch"]) 28 28 rfl rfl (fun _ _ _ _ _ _ us hl => match us, hl with | [_, _], _ => rfl) fun f fd F => ?_
  refine FnG.ofD F sc_law_led (fun vs H Q E h => ?_) (fun cdv A outer s H vs Q E hg hr h => ?_)
  · obtain ⟨_, _, rfl, _⟩ := h; rfl
  obtain ⟨x, y, rfl, h⟩ := h
  refine ⟨_, PSs.nox (pss_cons (ps_set (i := 2) sc_law_led.nd rfl (Or.inl rfl) (pe_callTy call_list_of rfl (W.free 80) boot_list (pa_cons (pv 0) pa_nil)))
      (pss_cons (ps_for PassesOwn.never rfl (pi_tupK (K := K) (pv 1)) (pg_tupK (K := K) (n := 2) rfl (pgs_cons (pg_name (i := 3) sc_law_led.nd rfl (Or.inl rfl)) (pgs_cons (pg_name (i := 4) sc_law_led.nd rfl (Or.inl rfl)) pgs_nil))) (pss_one (ps_asg (pe_ix (ix_any (K := K)) (pv 0) (pv 4) (fun _ _ => rfl)) (pg_sub (pv 2) (pv 3) set_list))))
      (pss_one (ps_ret (pe_callTy call_tuple_of rfl (W.free 76) boot_tuple (pa_cons (pv 2) pa_nil)))))), ?_⟩
  rw [show L2.start ["_law_layout", "_law_stretch", "_law_found", "_law_place", "_law_source"] [x, y] = [some x, some y, none, none, none] from rfl]
  obtain ⟨L, S, ⟨a, rfl, ha⟩, ⟨b, xs, rfl, hb, hp⟩, hl, hl2, hS, q⟩ := h
  refine sqI (asI ⟨_, rfl, a, _, rfl, .inr ha, fun p hpn => ?_⟩)
  have s0 : Same H (upd H p (.lst (L.map it))) := Same.new hpn
  refine ⟨_, rfl, b, rfl, ⟨xs, same_t s0 hb⟩, for_tup (xs := xs) (fun i σ H' => (∃ o3 o4, σ = [some (.ref a), some (.ref b), some (.ref p), o3, o4]) ∧ Same H H' ∧ H' p = some (.lst ((ledF L (S.take i) L).map it))) ?_ ?_ ?_ ?_⟩
  · exact ⟨⟨_, _, rfl⟩, s0, upd_same⟩
  · exact fun i σ H' _ hP => same_t hP.2.1 hb
  · rintro i x σ H' hx ⟨⟨o3, o4, rfl⟩, sm, hy⟩
    obtain ⟨q1, hq1, c, rfl, hc⟩ := pd_get hp hx
    have hm := hS q1 (List.mem_of_getElem? hq1)
    have hg2 : (L.map it)[q1.2]? = some (it (L.getD q1.2 none)) := by
      rw [List.getElem?_map, List.getD_eq_getElem?_getD, List.getElem?_eq_getElem hm.2]; rfl
    refine ⟨c, _, rfl, SqT.of (sm _ _ hc), rfl, _, _, rfl, _, _, rfl, rfl, _, rfl, _, rfl, .inr (.inl ⟨a, _, _, _, rfl, rfl, same_t sm ha, atI_nat hg2, ?_⟩)⟩
    refine ⟨_, rfl, _, rfl, p, _, _, q1.1, rfl, rfl, hy, ix_nt (by rw [List.length_map, ledF_len]; exact hm.1), ?_⟩
    refine ⟨⟨_, _, rfl⟩, Same.mut sm hpn, ?_⟩
    rw [upd_same, List.take_add_one, hq1]
    show _ = some (HO.lst ((ledF L (S.take i ++ [q1]) L).map it))
    rw [ledF_snoc, List.map_set]
  · rintro σ H' ⟨⟨o3, o4, rfl⟩, sm, hy⟩
    have e : S.take xs.length = S := by rw [hp.length, List.take_length]
    rw [e] at hy
    exact ⟨_, rfl, p, _, rfl, .inl ⟨SqL.of hy, fun l hl => q _ _ (sm.trans (Same.new hl)) ⟨l, rfl, SqT.of upd_same⟩⟩⟩
end Wm
set_option Elab.async false
set_option linter.all false
set_option maxRecDepth 100000
set_option maxHeartbeats 4000000
/-! safe, wanted, sources -/
namespace Wm
open PySem PySem.Spec PyProof.Rows L2
theorem sc_law_is_safe : FnScope ["_law_needs_here", "_law_layout", "_law_stretch", "_law_place", "_law_source", "_law_places", "_law_at", "_law_item", "_law_outside", "_law_room"] ["_law_needs_here", "_law_layout", "_law_stretch"] (defScope s_law_is_safe) := ⟨rfl, rfl, rfl, by decide +kernel, rfl, by decide +kernel, by decide +kernel⟩
theorem d_law_is_safe {P : Program} {w : World} {K : PySem.W.Frag} {mg : Str → Option Value} {base : Heap} (W : Wd K mg base) : DnG P w K mg base 3 "_law_is_safe" (sp3 (pIsSafe K)) := by
  refine W.dnG (st := s_law_is_safe) (ps := ["_law_needs_here", "_law_layout", "_law_stretch"]) 29 29 rfl rfl (fun _ _ _ _ _ _ us hl => match us, hl with | [_, _, _], _ => rfl) fun f fd F => ?_
  refine FnG.ofD F sc_law_is_safe (fun vs H Q E h => ?_) (fun cdv A outer s H vs Q E hg hr h => ?_)
  · obtain ⟨_, _, _, rfl, _⟩ := h; rfl
  have hu := hr.units
  obtain ⟨x, y, z, rfl, h⟩ := h
  refine ⟨_, PSs.nox (pss_cons (ps_set (i := 5) sc_law_is_safe.nd rfl (Or.inr rfl) (pe_lc (own := [("_law_place", 3), ("_law_source", 4)]) rfl sc_law_is_safe.nd (pi_listK (K := K) (pv 2)) (blkOk_by (by kernel_rfl)) (fun _ _ _ _ _ => (pg_tupK (K := K) (n := 2) rfl (pgs_cons (pg_name (i := 3) sc_law_is_safe.nd rfl (Or.inl rfl)) (pgs_cons (pg_name (i := 4) sc_law_is_safe.nd rfl (Or.inl rfl)) pgs_nil)))) (fun _ _ _ _ _ => pts_nil) (fun _ _ _ _ _ => (pv 3))))
      (pss_cons (ps_setLc (i := 8) (own := [("_law_at", 6), ("_law_item", 7)]) rfl sc_law_is_safe.nd rfl rfl (sw_true rfl rfl rfl (by decide +kernel)) (pi_enumT rfl (W.free 78) (pa_cons (pv 1) pa_nil)) (blkOk_by (by kernel_rfl)) (fun _ _ _ _ _ => (pg_tupK (K := K) (n := 2) rfl (pgs_cons (pg_name (i := 6) sc_law_is_safe.nd rfl (Or.inl rfl)) (pgs_cons (pg_name (i := 7) sc_law_is_safe.nd rfl (Or.inl rfl)) pgs_nil)))) (fun _ _ _ _ _ => (pts_one (pt_cmpR (op_niA (K := K)) (pv 6) (pv 5) (by rfl)))) (fun _ _ _ _ _ => (pv 7)))
      (pss_one (ps_ret (pe_cmpR (op_eqA hu (K := K)) (pe_lc (own := [("_law_room", 9)]) rfl sc_law_is_safe.nd (pi_listK (K := K) (pe_fnG (d_law_rooms W) hg (hr.mono (by decide)) rfl (pa_cons (pv 0) (pa_cons (pv 8) pa_nil)))) (blkOk_by (by kernel_rfl)) (fun _ _ _ _ _ => (pg_name (i := 9) sc_law_is_safe.nd rfl (Or.inl rfl))) (fun _ _ _ _ _ => (pts_one (pt_cmpR op_lt (pv 9) pe_int (nomark _)))) (fun _ _ _ _ _ => (pv 9))) (pe_lst pa_nil) (nomark _)))))), ?_⟩
  rw [show L2.start ["_law_needs_here", "_law_layout", "_law_stretch", "_law_place", "_law_source", "_law_places", "_law_at", "_law_item", "_law_outside", "_law_room"] [x, y, z] = [some x, some y, some z, none, none, none, none, none, none, none] from rfl]
  obtain ⟨ns, L, S, ⟨c, rfl, hc⟩, ⟨a, rfl, ha⟩, ⟨b, xs, rfl, hb, hp⟩, hn, hl, hs, q⟩ := h
  refine sqI (asI (lcI ⟨_, rfl, b, rfl, ⟨_, hb⟩, mpPL xs S (fun q => nt q.1) hb hp (by omega) (fun q c H1 hq e1 hc Z hz => ⟨c, _, rfl, hc, rfl, _, _, rfl, _, _, rfl, rfl, rfl, _, rfl, hz _ (Same.refl _)⟩) fun D H1 hD e1 h1 => ?_⟩))
  have hP : ∀ H', Same H1 H' → SqL K H' D ((S.map (·.1)).map nt) := fun H' e => .inl (.inl (by rw [e _ _ h1, List.map_map]; rfl))
  dsimp only [gName, List.set_cons_succ, List.set_cons_zero]
  refine sqI (asI (lcI ⟨_, rfl, a, _, rfl, same_t e1 ha, lcE L it (fun i _ => !(S.map (·.1)).contains i) (fun _ o => it o) (same_t e1 ha) (by omega) (fun i x T H2 hx e2 hT Z N hz hN => ?_) fun D2 H2 hD2 e2 h2 => ?_⟩))
  · refine ⟨T, _, rfl, SqT.of upd_same, rfl, _, _, rfl, _, _, rfl, rfl, rfl, _, rfl, _, rfl, D, _, rfl, .inl (hP _ (e2.trans (Same.new hT))), rfl, nts_flat _, _, rfl, ?_⟩
    rw [inV_nt]
    exact tst (fun c => ⟨_, rfl, hz _ c (Same.new hT)⟩) fun c => hN _ c (Same.new hT)
  · dsimp only [gName, List.set_cons_succ, List.set_cons_zero]
    have ho : H2 D2 = some (.lst ((outs L (S.map (·.1))).map it)) := by rw [h2]; exact congrArg (fun z => some (HO.lst z)) (selF_map _ (fun _ o => o) it L 0)
    have hol : (outs L (S.map (·.1))).length ≤ L.length := selF_len _ _ L 0
    refine rtI (opI (lcI ⟨_, rfl, _, rfl, _, _, rfl, ns, outs L (S.map (·.1)), ⟨c, rfl, same_t (e1.trans e2) hc⟩, LyL.a ⟨D2, rfl, SqL.of ho⟩, hn, by omega, fun H3 p3 e3 hp3 h3 => ?_⟩))
    refine ⟨p3, rfl, ⟨_, SqL.of h3⟩, lcL (rms ns (outs L (S.map (·.1)))) V.int (fun z => decide (z < 0)) V.int (SqL.of h3) (by simp; omega) (fun z H4 _ e4 Z N hz hN => ?_) fun D4 H4 hD4 e4 h4 => ?_⟩
    · exact ⟨rfl, _, rfl, _, _, rfl, rfl, _, rfl, tst (fun c => ⟨_, rfl, hz _ c (Same.refl _)⟩) fun c => hN _ c (Same.refl _)⟩
    · exact ⟨by decide, fun p5 hp5 => eqNilI _ ((Same.new hp5).seq (SqL.of h4)) (SqL.of upd_same) (q _ (Same.new' ((e1.trans e2).trans (e3.trans e4)) hp5))⟩
theorem sc_law_is_wanted : FnScope ["_law_wish", "_law_layout", "_law_at", "_law_item"] ["_law_wish", "_law_layout"] (defScope s_law_is_wanted) := ⟨rfl, rfl, rfl, by decide +kernel, rfl, by decide +kernel, by decide +kernel⟩
theorem d_law_is_wanted {P : Program} {w : World} {K : PySem.W.Frag} {mg : Str → Option Value} {base : Heap} (W : Wd K mg base) : DnG P w K mg base 1 "_law_is_wanted" (sp2 (pIsWanted K)) := by
  refine W.dnG (st := s_law_is_wanted) (ps := ["_law_wish", "_law_layout"]) 30 30 rfl rfl (fun _ _ _ _ _ _ us hl => match us, hl with | [_, _], _ => rfl) fun f fd F => ?_
  refine FnG.ofD F sc_law_is_wanted (fun vs H Q E h => ?_) (fun cdv A outer s H vs Q E hg hr h => ?_)
  · obtain ⟨_, _, rfl, _⟩ := h; rfl
  have hu := hr.units
  obtain ⟨x, y, rfl, h⟩ := h
  refine ⟨_, PSs.nox (pss_one (ps_ret (pe_cmpR (op_eqA hu (K := K)) (pe_lc (own := [("_law_at", 2), ("_law_item", 3)]) rfl sc_law_is_wanted.nd (pi_enumT rfl (W.free 78) (pa_cons (pv 0) pa_nil)) (blkOk_by (by kernel_rfl)) (fun _ _ _ _ _ => (pg_tupK (K := K) (n := 2) rfl (pgs_cons (pg_name (i := 2) sc_law_is_wanted.nd rfl (Or.inl rfl)) (pgs_cons (pg_name (i := 3) sc_law_is_wanted.nd rfl (Or.inl rfl)) pgs_nil)))) (fun _ _ _ _ _ => (pts_one (PW.pt (pw_and (pt_cmpR op_notN (pv 3) pe_non (nomark _)) (pw_and1 (pt_cmpR (op_neA hu (K := K)) (pv 3) (pe_ix (ix_any (K := K)) (pv 1) (pv 2) (fun _ _ => rfl)) (nomark _))))))) (fun _ _ _ _ _ => (pv 2))) (pe_lst pa_nil) (nomark _)))), ?_⟩
  rw [show L2.start ["_law_wish", "_law_layout", "_law_at", "_law_item"] [x, y] = [some x, some y, none, none] from rfl]
  obtain ⟨W, L, ⟨c, rfl, hc⟩, ⟨a, rfl, ha⟩, hn, hl, q⟩ := h
  refine rtI (opI (lcI ⟨_, rfl, c, _, rfl, hc, lcE W it (fun i o => match o with | none => false | some v => !decide (it (some v) = it (L.getD i none))) (fun i _ => nt i) hc (by omega) (fun i x T H1 hx e1 hT Z N hz hN => ?_) fun D H1 hD e1 h1 => ?_⟩))
  · refine ⟨T, _, rfl, SqT.of upd_same, rfl, _, _, rfl, _, _, rfl, rfl, rfl, ?_⟩
    cases x with
    | none => exact ⟨_, rfl, rfl, _, rfl, iteF (hN _ rfl (Same.new hT))⟩
    | some v =>
      have hi := (List.getElem?_eq_some_iff.mp hx).1
      have hg : (L.map it)[i]? = some (it (L.getD i none)) := by
        rw [List.getElem?_map, List.getD_eq_getElem?_getD, List.getElem?_eq_getElem (by omega)]; rfl
      exact ⟨_, rfl, rfl, _, rfl, iteT ⟨_, rfl, _, rfl, _, rfl, ixT (same_t (e1.trans (Same.new hT)) ha) (atI_nat hg) (.inl ⟨it_scal _ _, _, rfl, tst (fun c => ⟨_, rfl, hz _ c (Same.new hT)⟩) fun c => hN _ c (Same.new hT)⟩)⟩⟩
  · rw [pos_nt] at h1
    exact ⟨by decide, fun p hp => eqNilN _ ((Same.new hp).seq (SqL.of h1)) (SqL.of upd_same) (q _ (Same.new' e1 hp))⟩
theorem sc_law_met : FnScope ["_law_copies", "_law_found", "_law_place", "_law_source"] ["_law_copies"] (defScope s_law_met) := ⟨rfl, rfl, rfl, by decide +kernel, rfl, by decide +kernel, by decide +kernel⟩
theorem d_law_met {P : Program} {w : World} {K : PySem.W.Frag} {mg : Str → Option Value} {base : Heap} (W : Wd K mg base) : DnG P w K mg base 1 "_law_met" (sp1 (pMet K)) := by
  refine W.dnG (st := s_law_met) (ps := ["_law_copies"]) 40 40 rfl rfl (fun _ _ _ _ _ _ us hl => match us, hl with | [_], _ => rfl) fun f fd F => ?_
  refine FnG.ofD F sc_law_met (fun vs H Q E h => ?_) (fun cdv A outer s H vs Q E hg hr h => ?_)
  · obtain ⟨_, rfl, _⟩ := h; rfl
  obtain ⟨x, rfl, h⟩ := h
  refine ⟨_, PSs.nox (pss_cons (ps_set (i := 1) sc_law_met.nd rfl (Or.inl rfl) (pe_lst pa_nil))
      (pss_cons (ps_for PassesOwn.never rfl (pi_listK (K := K) (pv 0)) (pg_tupK (K := K) (n := 2) rfl (pgs_cons (pg_name (i := 2) sc_law_met.nd rfl (Or.inl rfl)) (pgs_cons (pg_name (i := 3) sc_law_met.nd rfl (Or.inl rfl)) pgs_nil))) (pss_one (ps_expr (pe_bmK (K := K) PySem.F.plainAttrs_list PySem.F.slot_list_extend PySem.F.type_list_extend mt_extend (pv 1) (pa_cons (pe_lst (pa_cons (pv 2) (pa_cons (pv 3) pa_nil))) pa_nil)))))
      (pss_one (ps_ret (pv 1))))), ?_⟩
  rw [show L2.start ["_law_copies", "_law_found", "_law_place", "_law_source"] [x] = [some x, none, none, none] from rfl]
  obtain ⟨S, ⟨b, xs, rfl, hb, hp⟩, hs, q⟩ := h
  refine sqI (asI ⟨by decide, fun p hpn => ?_⟩)
  have s0 : Same H (upd H p (.lst [])) := Same.new hpn
  refine ⟨_, rfl, b, rfl, ⟨xs, s0.seq hb⟩, for_list (xs := xs) (fun i σ H' => (∃ o2 o3, σ = [some (.ref b), some (.ref p), o2, o3]) ∧ Same H H' ∧ H' p = some (.lst (((S.take i).flatMap fun q => [q.1, q.2]).map nt))) ?_ ?_ ?_ ?_⟩
  · exact ⟨⟨_, _, rfl⟩, s0, upd_same⟩
  · exact fun i σ H' _ hP => hP.2.1.seq hb
  · rintro i x σ H' hx ⟨⟨o3, o4, rfl⟩, sm, hy⟩
    obtain ⟨q1, hq1, c, rfl, hc⟩ := pd_get hp hx
    have hlen : ((S.take i).flatMap fun q => [q.1, q.2]).length = 2 * (S.take i).length := by
      generalize S.take i = S'
      induction S' with
      | nil => rfl
      | cons a r ih => rw [List.flatMap_cons, List.length_append, ih]; show 2 + 2 * r.length = 2 * (r.length + 1); omega
    have hl2 : (S.take i).length ≤ S.length := by rw [List.length_take]; omega
    refine ⟨c, _, rfl, SqT.of (sm _ _ hc), rfl, _, _, rfl, _, _, rfl, rfl, _, rfl, .inl ⟨rfl, _, SqL.of hy⟩, _, rfl, _, rfl, (by show 2 ≤ sizeLine; decide), fun p2 hp2 => ?_⟩
    have hne : p ≠ p2 := ne_of_none hy hp2
    refine ⟨p, p2, _, _, rfl, rfl, by rw [upd_ne hne]; exact hy, upd_same, ?_, ⟨_, _, rfl⟩, Same.mut (Same.new' sm hp2) hpn, ?_⟩
    · rw [List.length_map, hlen]
      show _ + 2 ≤ 16777216
      omega
    · rw [upd_same, List.take_add_one, hq1]
      show _ = some (HO.lst (((S.take i ++ [q1]).flatMap fun q => [q.1, q.2]).map nt))
      rw [List.flatMap_append, List.map_append]
      rfl
  · rintro σ H' ⟨⟨o3, o4, rfl⟩, sm, hy⟩
    have e : S.take xs.length = S := by rw [hp.length, List.take_length]
    rw [e] at hy
    exact ⟨_, rfl, q _ _ sm hpn hy⟩
theorem sc_law_source_of : FnScope ["_law_layout", "_law_place", "_law_item", "_law_at", "_law_one"] ["_law_layout", "_law_place", "_law_item"] (defScope s_law_source_of) := ⟨rfl, rfl, rfl, by decide +kernel, rfl, by decide +kernel, by decide +kernel⟩
theorem d_law_source_of {P : Program} {w : World} {K : PySem.W.Frag} {mg : Str → Option Value} {base : Heap} (W : Wd K mg base) : DnG P w K mg base 1 "_law_source_of" (sp3 (pSourceOf K)) := by
  refine W.dnG (st := s_law_source_of) (ps := ["_law_layout", "_law_place", "_law_item"]) 44 44 rfl rfl (fun _ _ _ _ _ _ us hl => match us, hl with | [_, _, _], _ => rfl) fun f fd F => ?_
  refine FnG.ofD F sc_law_source_of (fun vs H Q E h => ?_) (fun cdv A outer s H vs Q E hg hr h => ?_)
  · obtain ⟨_, _, _, rfl, _⟩ := h; rfl
  have hu := hr.units
  obtain ⟨x, y, z, rfl, h⟩ := h
  refine ⟨_, PSs.nox (pss_one (ps_ret (pe_ix (ix_any (K := K)) (pe_lc (own := [("_law_at", 3), ("_law_one", 4)]) rfl sc_law_source_of.nd (pi_enumT rfl (W.free 78) (pa_cons (pv 0) pa_nil)) (blkOk_by (by kernel_rfl)) (fun _ _ _ _ _ => (pg_tupK (K := K) (n := 2) rfl (pgs_cons (pg_name (i := 3) sc_law_source_of.nd rfl (Or.inl rfl)) (pgs_cons (pg_name (i := 4) sc_law_source_of.nd rfl (Or.inl rfl)) pgs_nil)))) (fun _ _ _ _ _ => (pts_one (PW.pt (pw_and (pt_cmpR (op_eqA hu (K := K)) (pv 4) (pv 2) (nomark _)) (pw_and1 (pt_cmpR (op_neA hu (K := K)) (pv 3) (pv 1) (nomark _))))))) (fun _ _ _ _ _ => (pv 3))) pe_int (fun _ _ => rfl)))), ?_⟩
  rw [show L2.start ["_law_layout", "_law_place", "_law_item", "_law_at", "_law_one"] [x, y, z] = [some x, some y, some z, none, none] from rfl]
  obtain ⟨L, p, o, ⟨a, rfl, ha⟩, rfl, rfl, hl, ⟨r0, hr0, hr1⟩, q⟩ := h
  refine rtI (opI (lcI ⟨_, rfl, a, _, rfl, ha, lcE L it (fun i x => decide (it x = it o) && !decide (nt i = nt p)) (fun i _ => nt i) ha (by omega) (fun i x T H1 hx e1 hT Z N hz hN => ?_) fun D H1 hD e1 h1 => ?_⟩))
  · refine ⟨T, _, rfl, SqT.of upd_same, rfl, _, _, rfl, _, _, rfl, rfl, rfl, ?_⟩
    refine ⟨_, rfl, _, rfl, .inl ⟨it_scal _ _, _, rfl, tst (fun c1 => ?_) fun c1 => hN _ (by rw [c1]; rfl) (Same.new hT)⟩⟩
    exact ⟨_, rfl, _, rfl, .inl ⟨rfl, _, rfl, tst (fun c => ⟨_, rfl, hz _ (by rw [c1, c]; rfl) (Same.new hT)⟩) fun c => hN _ (by rw [c1, c]; rfl) (Same.new hT)⟩⟩
  · rw [pos_nt] at h1
    generalize hP : pos (fun i x => decide (it x = it o) && !decide (nt i = nt p)) L = P at h1
    have m0 : r0 ∈ P := by
      rw [← hP, mem_pos]
      exact ⟨o, hr0, by rw [decide_eq_true rfl, decide_eq_false (fun h => hr1 (nt_inj.mp h))]; rfl⟩
    cases P with
    | nil => cases m0
    | cons r R =>
      have hm : r ∈ pos (fun i x => decide (it x = it o) && !decide (nt i = nt p)) L := by rw [hP]; exact List.mem_cons_self
      obtain ⟨x, hx, hd⟩ := mem_pos.mp hm
      obtain ⟨h3, h4⟩ := Bool.and_eq_true_iff.mp hd
      have e : x = o := it_inj.mp (of_decide_eq_true h3)
      subst e
      exact ixL (SqL.of h1) (atI_nat (j := 0) rfl) (q _ r e1 hx fun z => by rw [z] at h4; simp at h4)
theorem sc_law_with : FnScope ["_law_row", "_law_place", "_law_item"] ["_law_row", "_law_place", "_law_item"] (defScope s_law_with) := ⟨rfl, rfl, rfl, by decide +kernel, rfl, by decide +kernel, by decide +kernel⟩
theorem d_law_with {P : Program} {w : World} {K : PySem.W.Frag} {mg : Str → Option Value} {base : Heap} (W : Wd K mg base) : DnG P w K mg base 1 "_law_with" (sp3 (pWith K)) := by
  refine W.dnG (st := s_law_with) (ps := ["_law_row", "_law_place", "_law_item"]) 51 51 rfl rfl (fun _ _ _ _ _ _ us hl => match us, hl with | [_, _, _], _ => rfl) fun f fd F => ?_
  refine FnG.ofD F sc_law_with (fun vs H Q E h => ?_) (fun cdv A outer s H vs Q E hg hr h => ?_)
  · obtain ⟨_, _, _, rfl, _⟩ := h; rfl
  obtain ⟨x, y, z, rfl, h⟩ := h
  refine ⟨_, PSs.nox (pss_one (ps_ret (pe_op (op_addA (K := K)) (pe_op (op_addA (K := K)) (pe_slice (sl_any (K := K)) (pv 0) po_none (po_some (pv 1))) (pe_tup (pa_cons (pv 2) pa_nil))) (pe_slice (sl_any (K := K)) (pv 0) (po_some (pe_op (op_addA (K := K)) (pv 1) pe_int)) po_none)))), ?_⟩
  rw [show L2.start ["_law_row", "_law_place", "_law_item"] [x, y, z] = [some x, some y, some z] from rfl]
  obtain ⟨cs, p, i, ⟨a, rfl, ha⟩, rfl, rfl, hp, hl, q⟩ := h
  refine ⟨_, rfl, _, rfl, _, rfl, slT ha fun H1 c1 e1 h1 => ⟨_, rfl, (by show 1 ≤ sizeLine; decide), fun t2 ht2 => ?_⟩⟩
  have hln : (cutV (cs.map V.int) none (some (p : Int))).length ≤ 1000 := by have := cutV_length (cs.map V.int) none (some (p : Int)); rw [List.length_map] at this; omega
  refine catT (same_t (Same.new ht2) h1) (SqT.of upd_same) (by show _ + 1 ≤ 16777216; omega) fun H3 c3 e3 h3 => ?_
  refine ⟨_, rfl, _, rfl, .inl ⟨_, _, rfl, rfl, _, rfl, ?_⟩⟩
  have e0 : ((p : Nat) : Int) + 1 = ((p + 1 : Nat) : Int) := by omega
  show rSlo K (V.ref a) (some ((p : Int) + 1)) none H3 _
  rw [e0]
  refine slT (same_t ((e1.trans (Same.new ht2)).trans e3) ha) fun H4 c4 e4 h4 => ?_
  refine catT (same_t e4 h3) h4 (by have := cutV_length (cs.map V.int) (some ((p + 1 : Nat) : Int)) none; rw [List.length_map] at this; rw [List.length_append]; show _ + 1 + _ ≤ 16777216; omega) fun H5 c5 e5 h5 => ?_
  refine q H5 _ ((e1.trans (Same.new ht2)).trans (e3.trans (e4.trans e5))) ⟨c5, rfl, ?_⟩
  rw [cut_take, cut_drop] at h5
  have e : (cs.set p i).map V.int = (cs.map V.int).take p ++ [V.int i] ++ (cs.map V.int).drop (p + 1) := by
    rw [List.set_eq_take_append_cons_drop, if_pos hp, List.map_append, List.map_cons, List.map_take, List.map_drop, List.append_assoc]; rfl
  rw [e]
  exact h5
end Wm
set_option Elab.async false
set_option linter.all false
set_option maxRecDepth 100000
set_option maxHeartbeats 4000000
/-! stretches and plans -/
namespace Wm
open PySem PySem.Spec PyProof.Rows L2
theorem sc_law_any_stretch : FnScope ["_law_bag_here", "_law_needs_here", "_law_layout", "_law_most", "_law_found", "_law_size", "_law_one", "_law_turn", "_law_place", "_law_source", "_law_is_new"] ["_law_bag_here", "_law_needs_here", "_law_layout", "_law_most"] (defScope s_law_any_stretch) := ⟨rfl, rfl, rfl, by decide +kernel, rfl, by decide +kernel, by decide +kernel⟩
theorem d_law_any_stretch {P : Program} {w : World} {K : PySem.W.Frag} {mg : Str → Option Value} {base : Heap} (W : Wd K mg base) : DnG P w K mg base 4 "_law_any_stretch" (sp4 (pAnyStretch K)) := by
  refine W.dnG (st := s_law_any_stretch) (ps := ["_law_bag_here", "_law_needs_here", "_law_layout", "_law_most"]) 39 39 rfl rfl (fun _ _ _ _ _ _ us hl => match us, hl with | [_, _, _, _], _ => rfl) fun f fd F => ?_
  refine FnG.ofD F sc_law_any_stretch (fun vs H Q E h => ?_) (fun cdv A outer s H vs Q E hg hr h => ?_)
  · obtain ⟨_, _, _, _, rfl, _⟩ := h; rfl
  have hu := hr.units
  obtain ⟨x, y, z, w, rfl, h⟩ := h
  refine ⟨_, PSs.nox (pss_cons (ps_par (i := 4) (j := 5) rfl sc_law_any_stretch.nd rfl rfl (by decide) rfl rfl (pa_cons (pe_lst pa_nil) (pa_cons (pe_callB (call_lenK (K := K)) rfl (W.free 71) PySem.boot_len (pa_cons (pv 2) pa_nil)) pa_nil)) (by rfl))
      (pss_cons (ps_for PassesOwn.never rfl (pi_range1 rfl (W.free 72) (pa_cons (pe_ifExp (pt_cmpR op_gt (pv 5) pe_int (nomark _)) (pv 3) pe_int) pa_nil)) (pg_name (i := 7) sc_law_any_stretch.nd rfl (Or.inl rfl)) (pss_cons (ps_par (i := 8) (j := 9) rfl sc_law_any_stretch.nd rfl rfl (by decide) rfl rfl (pa_cons (pe_fnG (d_law_take W) hg (hr.mono (by decide)) rfl (pa_cons (pv 0) (pa_cons (pv 5) pa_nil))) (pa_cons (pe_fnG (d_law_take W) hg (hr.mono (by decide)) rfl (pa_cons (pv 0) (pa_cons (pv 5) pa_nil))) pa_nil)) (by rfl))
      (pss_cons (ps_set (i := 10) sc_law_any_stretch.nd rfl (Or.inl rfl) (pe_and (pe_cmpR (op_niA (K := K)) (pv 8) (pe_fnG (d_law_met W) hg (hr.mono (by decide)) rfl (pa_cons (pv 4) pa_nil)) (by rfl)) (pe_one (pe_cmpR (op_niA (K := K)) (pv 9) (pe_lc (own := [("_law_one", 6)]) rfl sc_law_any_stretch.nd (pi_listK (K := K) (pv 4)) (blkOk_by (by kernel_rfl)) (fun _ _ _ _ _ => (pg_name (i := 6) sc_law_any_stretch.nd rfl (Or.inl rfl))) (fun _ _ _ _ _ => pts_nil) (fun _ _ _ _ _ => (pe_ix (ix_any (K := K)) (pv 6) pe_int (fun _ _ => rfl)))) (by rfl)))))
      (pss_one (ps_if (PW.pt (pw_and (pt_cmpR (op_neA hu (K := K)) (pv 8) (pv 9) (nomark _)) (pw_and (pt_val (pv 10)) (pw_and1 (pt_cmpR op_notN (pe_ix (ix_any (K := K)) (pv 2) (pv 9) (fun _ _ => rfl)) pe_non (nomark _)))))) (pss_one (ps_if (pt_val (pe_fnG (d_law_is_safe W) hg (hr.mono (by decide)) rfl (pa_cons (pv 1) (pa_cons (pv 2) (pa_cons (pe_op (op_addA (K := K)) (pv 4) (pe_lst (pa_cons (pe_tup (pa_cons (pv 8) (pa_cons (pv 9) pa_nil))) pa_nil))) pa_nil))))) (pss_one (ps_expr (pe_bmK (K := K) PySem.F.plainAttrs_list PySem.F.slot_list_append PySem.F.type_list_append mt_append (pv 4) (pa_cons (pe_tup (pa_cons (pv 8) (pa_cons (pv 9) pa_nil))) pa_nil)))) pss_nil)) pss_nil)))))
      (pss_one (ps_ret (pe_callTy call_tuple_of rfl (W.free 76) boot_tuple (pa_cons (pe_callB cr_sortedPO rfl (W.free 81) boot_sorted (pa_cons (pv 4) pa_nil)) pa_nil)))))), ?_⟩
  rw [show L2.start ["_law_bag_here", "_law_needs_here", "_law_layout", "_law_most", "_law_found", "_law_size", "_law_one", "_law_turn", "_law_place", "_law_source", "_law_is_new"] [x, y, z, w] = [some x, some y, some z, some w, none, none, none, none, none, none, none] from rfl]
  obtain ⟨b, ns, L, m, rfl, hb, ⟨c, rfl, hc⟩, ⟨a, rfl, ha⟩, rfl, hm, hn, hl, q⟩ := h
  refine sqI ⟨by decide, fun p hp => ⟨_, rfl, a, _, rfl, .inr (same_t (Same.new hp) ha), _, _, rfl, ?_⟩⟩
  dsimp only [List.set_cons_succ, List.set_cons_zero]
  rw [List.length_map]
  refine sqI (frI (ifE_cut (fun v H' => ∃ m' : Nat, v = nt m' ∧ m' ≤ m ∧ (m' ≠ 0 → 1 < L.length) ∧ H' = upd H p (.lst [])) (fun Q' hQ' => ?_) ?_))
  · exact ⟨_, rfl, _, _, rfl, rfl, _, rfl, tst (fun c => ⟨_, rfl, hQ' _ _ ⟨m, rfl, Nat.le_refl _, fun _ => by have := of_decide_eq_true c; omega, rfl⟩⟩) fun c => hQ' _ _ ⟨0, rfl, Nat.zero_le _, fun z => absurd rfl z, rfl⟩⟩
  rintro _ _ ⟨m', rfl, hm', hsz, rfl⟩
  refine frN (by omega) (forRng (fun i σ H' => (∃ o7 o8 o9 o10, σ = [some (.ref b), some (.ref c), some (.ref a), some (nt m), some (.ref p), some (nt L.length), none, o7, o8, o9, o10]) ∧ Same H H' ∧ ∃ xs S, H' p = some (.lst xs) ∧ Prs K H' xs S ∧ PreS ns L S ∧ S.length ≤ i) ?_ ?_ ?_)
  · exact ⟨⟨_, _, _, _, rfl⟩, Same.new hp, [], [], upd_same, .nil, ⟨List.nodup_nil, fun q hq => (by cases hq), fun q hq => (by cases hq), fun q hq => (by cases hq), .inl rfl⟩, Nat.le_refl _⟩
  · rintro i σ H1 hi ⟨⟨o7, o8, o9, o10, rfl⟩, sm, xs, S, hy, hpr, pre, hsl⟩
    have hL := hsz (by omega)
    refine sqI ⟨_, rfl, _, rfl, _, _, rfl, b, L.length, rfl, rfl, hb.mono sm, by omega, by omega, fun H2 r1 e2 hr1 => ⟨_, rfl, _, rfl, _, _, rfl, b, L.length, rfl, rfl, (hb.mono sm).mono e2, by omega, by omega, fun H3 r2 e3 hr2 => ⟨_, _, rfl, ?_⟩⟩⟩
    have e13 := e2.trans e3
    dsimp only [List.set_cons_succ, List.set_cons_zero]
    refine sqI (asI (andV_cut (fun v H4 => ∃ bb : Bool, v = .bl bb ∧ Same H3 H4 ∧ (bb = true → r1 ∉ (S.flatMap fun q => [q.1, q.2]) ∧ r2 ∉ plc S)) (fun Q' hQ' => ?_) ?_))
    · refine ⟨_, rfl, _, rfl, _, rfl, S, ⟨p, xs, rfl, SqL.of (e13 _ _ hy), Prs.mono e13 hpr⟩, by omega, fun H4 p4 e4 hp4 h4 => ⟨p4, _, rfl, .inl (SqL.of h4), rfl, nts_flat _, _, rfl, ?_⟩⟩
      rw [inV_nt]
      refine tst (fun c1 => ?_) fun c1 => hQ' _ _ ⟨false, rfl, e4, fun z => by cases z⟩
      refine ⟨_, rfl, lcI ⟨_, rfl, p, rfl, ⟨_, SqL.of (e4 _ _ (e13 _ _ hy))⟩, mpPL xs S (fun q => nt q.1) (SqL.of (e4 _ _ (e13 _ _ hy))) (Prs.mono (e13.trans e4) hpr) (by omega) (fun q c H5 hq e5 hc5 Z hz => ?_) fun D H5 hD e5 h5 => ?_⟩⟩
      · exact ⟨rfl, _, rfl, ixT hc5 rfl (hz _ (Same.refl _))⟩
      · refine ⟨D, (plc S).map nt, rfl, .inl (SqL.of (by rw [h5, plc, List.map_map]; rfl)), rfl, nts_flat _, ?_⟩
        have e9 := inV_nt r2 (plc S)
        refine hQ' _ _ ⟨_, rfl, e4.trans e5, fun z => ⟨by simpa using c1, ?_⟩⟩
        have z' : (!inV (nt r2) ((plc S).map nt)) = true := z
        rw [e9] at z'
        simpa using z'
    · rintro _ H4 ⟨bb, rfl, e4, hbb⟩
      have e14 := e13.trans e4
      have keep : ∀ (o : Option V), (∃ o7 o8 o9 o10, [some (V.ref b), some (.ref c), some (.ref a), some (nt m), some (.ref p), some (nt L.length), none, some (nt i), some (nt r1), some (nt r2), some (.bl bb)] = [some (V.ref b), some (.ref c), some (.ref a), some (nt m), some (.ref p), some (nt L.length), none, o7, o8, o9, o10]) := fun _ => ⟨_, _, _, _, rfl⟩
      dsimp only [List.set_cons_succ, List.set_cons_zero]
      refine ifI ⟨_, rfl, _, rfl, .inl ⟨rfl, _, rfl, tst (fun c1 => ?_) fun c1 => ?_⟩⟩
      · refine ⟨_, rfl, _, rfl, tst (fun c2 => ?_) fun c2 => ?_⟩
        · have hg : (L.map it)[r2]? = some (it (L.getD r2 none)) := by
            rw [List.getElem?_map, List.getD_eq_getElem?_getD, List.getElem?_eq_getElem hr2]; rfl
          refine ⟨_, rfl, _, rfl, ixT (same_t (sm.trans e14) ha) (atI_nat hg) ⟨rfl, _, rfl, tst (fun c3 => ?_) fun c3 => ?_⟩⟩
          · have hf : L.getD r2 none ≠ none := fun z => by rw [z] at c3; cases c3
            have hne : r1 ≠ r2 := fun z => by rw [z] at c1; simp at c1
            refine ifI ⟨_, rfl, _, rfl, _, rfl, _, rfl, _, rfl, (by show 2 ≤ sizeLine; decide), fun p5 hp5 => ⟨(by show 1 ≤ sizeLine; decide), fun p6 hp6 => ?_⟩⟩
            have s5 := Same.new (o := .tup [nt r1, nt r2]) hp5
            have s6 := Same.new (o := .lst [V.ref p5]) hp6
            refine catL (s6 _ _ (s5 _ _ (e14 _ _ hy))) upd_same (by rw [hpr.length]; show _ + 1 ≤ 16777216; omega) fun p7 hp7 => ?_
            have s7 := (s5.trans s6).trans (Same.new (o := .lst (xs ++ [V.ref p5])) hp7)
            have hpr7 := Prs.mono (e14.trans s7) hpr
            have hpn : Prs K _ (xs ++ [V.ref p5]) (S ++ [(r1, r2)]) := pd_snoc ⟨p5, rfl, Same.new hp7 _ _ (s6 _ _ upd_same)⟩ hpr7
            refine ⟨_, _, _, rfl, ns, L, S ++ [(r1, r2)], ⟨c, rfl, same_t (sm.trans (e14.trans s7)) hc⟩, ⟨a, rfl, same_t (sm.trans (e14.trans s7)) ha⟩, ⟨p7, _, rfl, SqL.of upd_same, hpn⟩, hn, hl, by rw [List.length_append]; show _ + 1 ≤ _; omega, fun H8 e8 => ⟨_, rfl, tst (fun c4 => ?_) fun c4 => ?_⟩⟩
            · have y8 := e8 _ _ (s7 _ _ (e14 _ _ hy))
              refine ⟨_, rfl, .inl ⟨rfl, _, SqL.of y8⟩, _, rfl, _, rfl, (by show 2 ≤ sizeLine; decide), fun p9 hp9 => ?_⟩
              have s9 := Same.new (o := .tup [nt r1, nt r2]) hp9
              refine ⟨p, xs, _, rfl, rfl, s9 _ _ y8, by rw [hpr.length]; show _ < 16777216; omega, ?_⟩
              have hpp : H p = none := hp
              refine ⟨keep none, Same.mut (sm.trans ((e14.trans s7).trans (e8.trans s9))) hp, _, S ++ [(r1, r2)], upd_same, ?_, ?_, by rw [List.length_append]; show _ + 1 ≤ _; omega⟩
              · have hh : ∀ {ys : List V} {S' : Stretch}, Prs K (upd _ p9 (.tup [nt r1, nt r2])) ys S' → Prs K (upd (upd H8 p9 (.tup [nt r1, nt r2])) p (.lst (xs ++ [V.ref p9]))) ys S' := fun {ys S'} h => by
                  induction h with
                  | nil => exact .nil
                  | cons h t ih =>
                    obtain ⟨b1, rfl, hb1⟩ := h
                    refine .cons ⟨b1, rfl, ?_⟩ ih
                    rw [upd_ne (ne_of hb1 (s9 _ _ y8) (by intro z; cases z))]
                    exact hb1
                exact hh (pd_snoc ⟨p9, rfl, upd_same⟩ (Prs.mono (e8.trans s9) hpr7))
              · exact pre.add hr1 hr2 (hbb c2).1 (hbb c2).2 hne hf (safe_ok c4)
            · exact ⟨keep none, sm.trans ((e14.trans s7).trans e8), xs, S, e8 _ _ (s7 _ _ (e14 _ _ hy)), Prs.mono e8 hpr7, pre, by omega⟩
          · exact ⟨keep none, sm.trans e14, xs, S, e14 _ _ hy, Prs.mono e14 hpr, pre, by omega⟩
        · exact ⟨keep none, sm.trans e14, xs, S, e14 _ _ hy, Prs.mono e14 hpr, pre, by omega⟩
      · exact ⟨keep none, sm.trans e14, xs, S, e14 _ _ hy, Prs.mono e14 hpr, pre, by omega⟩
  · rintro σ H1 ⟨⟨o7, o8, o9, o10, rfl⟩, sm, xs, S, hy, hpr, pre, hsl⟩
    dsimp only [List.set_cons_succ, List.set_cons_zero]
    refine rtI (cb1 (cb1 ⟨_, rfl, p, xs, keyP H1, rfl, SqL.of hy, keyP_ok hpr, fun ys p2 h1 h2 hp2 => ?_⟩))
    obtain ⟨S', hS', hperm, hlt'⟩ := sorted_prs hpr h1 h2.perm
    have hlt := hlt' pre.nd
    refine ⟨p2, ys, rfl, .inl ⟨SqL.of upd_same, fun l hl => q _ _ S' (sm.trans ((Same.new hp2).trans (Same.new hl))) ⟨l, ys, rfl, SqT.of upd_same, Prs.mono ((Same.new hp2).trans (Same.new hl)) hS'⟩ (fun hne => pre.good hperm hlt hne) (by rw [hperm.length_eq]; omega)⟩⟩
end Wm
set_option Elab.async false
set_option linter.all false
set_option maxRecDepth 100000
set_option maxHeartbeats 4000000
/-! the next copies -/
namespace Wm
open PySem PySem.Spec PyProof.Rows L2
theorem ntD {K : PySem.W.Frag} {H : Hp} {W : Lay} {c : Addr} {i : Nat} {Q : VK} (hc : SqT K H c (W.map it)) (hi : i < W.length) (q : Q (it (W.getD i none)) H) : rIx K (.ref c) (nt i) H Q :=
  ixT hc (atI_nat (by rw [List.getElem?_map, getD_get hi]; rfl)) q
theorem sc_law_next_copies : FnScope ["_law_bag_here", "_law_task_here", "_law_layout", "_law_needs_here", "_law_old", "_law_wish", "_law_room", "_law_at", "_law_item", "_law_wrong", "_law_good", "_law_place", "_law_aside", "_law_behind"] ["_law_bag_here", "_law_task_here", "_law_layout"] (defScope s_law_next_copies) := ⟨rfl, rfl, rfl, by decide +kernel, rfl, by decide +kernel, by decide +kernel⟩
theorem d_law_next_copies {P : Program} {w : World} {K : PySem.W.Frag} {mg : Str → Option Value} {base : Heap} (W : Wd K mg base) : DnG P w K mg base 4 "_law_next_copies" (sp3 (pNext K)) := by
  refine W.dnG (st := s_law_next_copies) (ps := ["_law_bag_here", "_law_task_here", "_law_layout"]) 45 45 rfl rfl (fun _ _ _ _ _ _ us hl => match us, hl with | [_, _, _], _ => rfl) fun f fd F => ?_
  refine FnG.ofD F sc_law_next_copies (fun vs H Q E h => ?_) (fun cdv A outer s H vs Q E hg hr h => ?_)
  · obtain ⟨_, _, _, rfl, _⟩ := h; rfl
  have hu := hr.units
  obtain ⟨x, y, z, rfl, h⟩ := h
  refine ⟨_, PSs.nox (pss_cons (ps_asg (pv 1) (pg_tupK (K := K) (n := 3) rfl (pgs_cons (pg_name (i := 3) sc_law_next_copies.nd rfl (Or.inl rfl)) (pgs_cons (pg_name (i := 4) sc_law_next_copies.nd rfl (Or.inl rfl)) (pgs_cons (pg_name (i := 5) sc_law_next_copies.nd rfl (Or.inr rfl)) pgs_nil)))))
      (pss_cons (ps_set (i := 6) sc_law_next_copies.nd rfl (Or.inr rfl) (pe_fnG (d_law_with_room W) hg (hr.mono (by decide)) rfl (pa_cons (pv 3) (pa_cons (pv 2) pa_nil))))
      (pss_cons (ps_setLc (i := 9) (own := [("_law_at", 7), ("_law_item", 8)]) rfl sc_law_next_copies.nd rfl rfl (sw_true rfl rfl rfl (by decide +kernel)) (pi_enumT rfl (W.free 78) (pa_cons (pv 5) pa_nil)) (blkOk_by (by kernel_rfl)) (fun _ _ _ _ _ => (pg_tupK (K := K) (n := 2) rfl (pgs_cons (pg_name (i := 7) sc_law_next_copies.nd rfl (Or.inl rfl)) (pgs_cons (pg_name (i := 8) sc_law_next_copies.nd rfl (Or.inl rfl)) pgs_nil)))) (fun _ _ _ _ _ => (pts_one (PW.pt (pw_and (pt_cmpR op_notN (pv 8) pe_non (nomark _)) (pw_and1 (pt_cmpR (op_neA hu (K := K)) (pv 8) (pe_ix (ix_any (K := K)) (pv 2) (pv 7) (fun _ _ => rfl)) (nomark _))))))) (fun _ _ _ _ _ => (pv 7)))
      (pss_cons (ps_setLc (i := 10) (own := [("_law_at", 7)]) rfl sc_law_next_copies.nd rfl rfl (sw_true rfl rfl rfl (by decide +kernel)) (pi_listK (K := K) (pv 9)) (blkOk_by (by kernel_rfl)) (fun _ _ _ _ _ => (pg_name (i := 7) sc_law_next_copies.nd rfl (Or.inl rfl))) (fun _ _ _ _ _ => (pts_one (pt_cmpR (op_inA (K := K)) (pv 7) (pv 6) (by rfl)))) (fun _ _ _ _ _ => (pv 7)))
      (pss_cons (ps_if (pt_cmpR (op_neA hu (K := K)) (pv 10) (pe_lst pa_nil) (nomark _)) (pss_cons (ps_set (i := 11) sc_law_next_copies.nd rfl (Or.inl rfl) (pe_fnG (d_law_some W) hg (hr.mono (by decide)) rfl (pa_cons (pv 0) (pa_cons (pv 10) pa_nil))))
      (pss_one (ps_ret (pe_lst (pa_cons (pe_tup (pa_cons (pv 11) (pa_cons (pe_fnG (d_law_source_of W) hg (hr.mono (by decide)) rfl (pa_cons (pv 2) (pa_cons (pv 11) (pa_cons (pe_ix (ix_any (K := K)) (pv 5) (pv 11) (fun _ _ => rfl)) pa_nil)))) pa_nil))) pa_nil))))) pss_nil)
      (pss_cons (ps_set (i := 12) sc_law_next_copies.nd rfl (Or.inl rfl) (pe_op (op_addA (K := K)) (pe_lc (own := [("_law_at", 7)]) rfl sc_law_next_copies.nd (pi_listK (K := K) (pv 6)) (blkOk_by (by kernel_rfl)) (fun _ _ _ _ _ => (pg_name (i := 7) sc_law_next_copies.nd rfl (Or.inl rfl))) (fun _ _ _ _ _ => (pts_one (pt_cmpR op_isN (pe_ix (ix_any (K := K)) (pv 5) (pv 7) (fun _ _ => rfl)) pe_non (nomark _)))) (fun _ _ _ _ _ => (pv 7))) (pe_lc (own := [("_law_at", 7)]) rfl sc_law_next_copies.nd (pi_listK (K := K) (pv 6)) (blkOk_by (by kernel_rfl)) (fun _ _ _ _ _ => (pg_name (i := 7) sc_law_next_copies.nd rfl (Or.inl rfl))) (fun _ _ _ _ _ => (pts_one (pt_cmpR op_notN (pe_ix (ix_any (K := K)) (pv 5) (pv 7) (fun _ _ => rfl)) pe_non (nomark _)))) (fun _ _ _ _ _ => (pv 7)))))
      (pss_cons (ps_if (pt_cmpR (op_eqA hu (K := K)) (pv 12) (pe_lst pa_nil) (nomark _)) (pss_one (ps_ret (pe_lst pa_nil))) pss_nil)
      (pss_cons (ps_set (i := 11) sc_law_next_copies.nd rfl (Or.inl rfl) (pe_fnG (d_law_some W) hg (hr.mono (by decide)) rfl (pa_cons (pv 0) (pa_cons (pv 9) pa_nil))))
      (pss_cons (ps_set (i := 13) sc_law_next_copies.nd rfl (Or.inl rfl) (pe_fnG (d_law_led W) hg (hr.mono (by decide)) rfl (pa_cons (pv 2) (pa_cons (pe_tup (pa_cons (pe_tup (pa_cons (pe_ix (ix_any (K := K)) (pv 12) pe_int (fun _ _ => rfl)) (pa_cons (pv 11) pa_nil))) pa_nil)) pa_nil))))
      (pss_one (ps_ret (pe_lst (pa_cons (pe_tup (pa_cons (pe_ix (ix_any (K := K)) (pv 12) pe_int (fun _ _ => rfl)) (pa_cons (pv 11) pa_nil))) (pa_cons (pe_tup (pa_cons (pv 11) (pa_cons (pe_fnG (d_law_source_of W) hg (hr.mono (by decide)) rfl (pa_cons (pv 13) (pa_cons (pv 11) (pa_cons (pe_ix (ix_any (K := K)) (pv 5) (pv 11) (fun _ _ => rfl)) pa_nil)))) pa_nil))) pa_nil)))))))))))))), ?_⟩
  rw [show L2.start ["_law_bag_here", "_law_task_here", "_law_layout", "_law_needs_here", "_law_old", "_law_wish", "_law_room", "_law_at", "_law_item", "_law_wrong", "_law_good", "_law_place", "_law_aside", "_law_behind"] [x, y, z] = [some x, some y, some z, none, none, none, none, none, none, none, none, none, none, none] from rfl]
  obtain ⟨b, T, L, rfl, hb, hTk, ⟨a, rfl, ha⟩, gt, rt, hll, hl, hn, hwr, q⟩ := h
  obtain ⟨t, y1, y2, y3, rfl, ht, ⟨c, rfl, hc⟩, ⟨co, rfl, hco⟩, ⟨cw, rfl, hcw⟩⟩ := hTk.open
  have hwl : T.wish.length = L.length := by rw [hll, gt.len]
  refine sqI (asI ⟨_, rfl, t, _, rfl, ht, rfl, _, _, rfl, _, _, rfl, _, _, rfl, rfl, ?_⟩)
  dsimp only [List.set_cons_succ, List.set_cons_zero]
  refine sqI (asI ⟨_, rfl, _, rfl, _, _, rfl, T.ns, L, ⟨c, rfl, hc⟩, ⟨a, rfl, ha⟩, hn, by omega, rt.val, fun H1 p1 e1 hp1 h1 => ?_⟩)
  have lR : (wRoom T.ns L).length ≤ L.length := selF_len _ _ L 0
  have lW : (wrong T.wish L).length ≤ T.wish.length := selF_len _ _ T.wish 0
  have rlt : ∀ i ∈ wRoom T.ns L, i < L.length := fun i hi => ((mem_room rt.val).mp hi).1
  dsimp only [gName, List.set_cons_succ, List.set_cons_zero]
  refine sqI (asI (lcI ⟨_, rfl, cw, _, rfl, same_t e1 hcw, lcE T.wish it (fun i o => match o with | none => false | some v => !decide (it (some v) = it (L.getD i none))) (fun i _ => nt i) (same_t e1 hcw) (by omega) (fun i x T' H2 hx e2 hT Z N hz hN => ?_) fun D2 H2 hD2 e2 h2 => ?_⟩))
  · refine ⟨T', _, rfl, SqT.of upd_same, rfl, _, _, rfl, _, _, rfl, rfl, rfl, ?_⟩
    cases x with
    | none => exact ⟨_, rfl, rfl, _, rfl, iteF (hN _ rfl (Same.new hT))⟩
    | some v =>
      have hi := (List.getElem?_eq_some_iff.mp hx).1
      exact ⟨_, rfl, rfl, _, rfl, iteT ⟨_, rfl, _, rfl, _, rfl, ntD (same_t ((e1.trans e2).trans (Same.new hT)) ha) (by omega) (.inl ⟨it_scal _ _, _, rfl, tst (fun c => ⟨_, rfl, hz _ c (Same.new hT)⟩) fun c => hN _ c (Same.new hT)⟩)⟩⟩
  rw [pos_nt] at h2
  change H2 D2 = some (.lst ((wrong T.wish L).map nt)) at h2
  have e12 := e1.trans e2
  dsimp only [gName, List.set_cons_succ, List.set_cons_zero]
  refine sqI (asI (lcI ⟨_, rfl, D2, rfl, ⟨_, SqL.of h2⟩, lcL (wrong T.wish L) nt (fun i => (wRoom T.ns L).contains i) nt (SqL.of h2) (by omega) (fun i H3 _ e3 Z N hz hN => ?_) fun D3 H3 hD3 e3 h3 => ?_⟩))
  · refine ⟨rfl, _, rfl, _, rfl, p1, _, rfl, .inl (SqL.of (e3 _ _ (e2 _ _ h1))), rfl, nts_flat _, _, rfl, ?_⟩
    show if inV (nt i) ((wRoom T.ns L).map nt) = true then _ else _
    rw [inV_nt]
    exact tst (fun c => ⟨_, rfl, hz _ c (Same.refl _)⟩) fun c => hN _ c (Same.refl _)
  have e13 := e12.trans e3
  generalize hG : (wrong T.wish L).filter (fun i => (wRoom T.ns L).contains i) = G at h3
  have lG : G.length ≤ (wrong T.wish L).length := by rw [← hG]; exact List.length_filter_le _ _
  dsimp only [gName, List.set_cons_succ, List.set_cons_zero]
  refine sqI (ifI ⟨_, rfl, by decide, fun p4 hp4 => neNilN _ ((Same.new hp4).seq (SqL.of h3)) (SqL.of upd_same) ⟨_, rfl, tst (fun c1 => ?_) fun c1 => ?_⟩⟩)
  · have e14 := e13.trans (Same.new (o := .lst []) hp4)
    have hGn : G ≠ [] := fun z => by rw [z] at c1; cases c1
    refine sqI (asI ⟨_, rfl, _, rfl, _, _, rfl, b, D3, G.map nt, rfl, rfl, hb.mono e14, (Same.new hp4).seq (SqL.of h3), by simpa using hGn, by rw [List.length_map]; omega, fun H5 v5 e5 hv5 => ?_⟩)
    obtain ⟨p, hp, rfl⟩ := List.mem_map.mp hv5
    rw [← hG] at hp
    obtain ⟨hpw, hpr⟩ := List.mem_filter.mp hp
    have hroom := (mem_room rt.val).mp (List.contains_iff_mem.mp hpr)
    obtain ⟨v, hv1, hv2⟩ := mem_wrong.mp hpw
    have e15 := e14.trans e5
    dsimp only [gName, List.set_cons_succ, List.set_cons_zero]
    refine rtI ⟨_, rfl, _, rfl, _, rfl, _, rfl, _, rfl, ntD (same_t e15 hcw) (by rw [hwl]; exact hroom.1) ⟨_, _, _, rfl, L, p, T.wish.getD p none, ⟨a, rfl, same_t e15 ha⟩, rfl, rfl, by omega, ?_, fun H6 s e6 hs1 hs2 => ?_⟩⟩
    · rw [getD_some.mpr hv1]
      exact src_ex gt rt hv1 hv2
    · rw [getD_some.mpr hv1] at hs1
      refine ⟨(by show 2 ≤ sizeLine; decide), fun p7 hp7 => ⟨(by show 1 ≤ sizeLine; decide), fun p8 hp8 => q _ p8 _ [(p, s)] ((e15.trans e6).trans ((Same.new hp7).trans (Same.new hp8))) (ne_none_of ((e15.trans e6).trans (Same.new hp7)) hp8) upd_same (.cons ⟨p7, rfl, Same.new hp8 _ _ upd_same⟩ .nil) (.inr (.inl ⟨p, s, rfl, ?_, ?_⟩))⟩⟩
      · exact good_one rt hroom (List.getElem?_eq_some_iff.mp hs1).1 hs2 (by rw [getD_some.mpr hs1]; simp)
      · have := mu_good (ns := T.ns) hwl hv1 hv2 hs1
        unfold mu at this ⊢
        omega
  · have hst : ∀ i ∈ wrong T.wish L, ¬ RoomAt T.ns L i := fun i hi hr => by
      have : i ∈ G := by rw [← hG]; exact List.mem_filter.mpr ⟨hi, List.contains_iff_mem.mpr ((mem_room rt.val).mpr hr)⟩
      cases G with
      | nil => cases this
      | cons x r => cases c1
    have e14 := e13.trans (Same.new (o := .lst []) hp4)
    have h14 := Same.new (o := .lst []) hp4 _ _ (e3 _ _ (e2 _ _ h1))
    have hw4 := Same.new (o := .lst []) hp4 _ _ (e3 _ _ h2)
    refine nxI ?_
    dsimp only [List.set_cons_succ, List.set_cons_zero]
    refine sqI (asI (opI (lcI ⟨_, rfl, p1, rfl, ⟨_, SqL.of h14⟩, lcL (wRoom T.ns L) nt (fun i => decide (it (T.wish.getD i none) = .non)) nt (SqL.of h14) (by omega) (fun i H5 hi e5 Z N hz hN => ?_) fun D5 H5 hD5 e5 h5 => ?_⟩)))
    · exact ⟨rfl, _, rfl, _, rfl, ntD (same_t (e14.trans e5) hcw) (by rw [hwl]; exact rlt i hi) ⟨rfl, _, rfl, tst (fun c => ⟨_, rfl, hz _ c (Same.refl _)⟩) fun c => hN _ c (Same.refl _)⟩⟩
    refine lcI ⟨_, rfl, p1, rfl, ⟨_, SqL.of (e5 _ _ h14)⟩, lcL (wRoom T.ns L) nt (fun i => !decide (it (T.wish.getD i none) = .non)) nt (SqL.of (e5 _ _ h14)) (by omega) (fun i H6 hi e6 Z N hz hN => ?_) fun D6 H6 hD6 e6 h6 => ?_⟩
    · exact ⟨rfl, _, rfl, _, rfl, ntD (same_t ((e14.trans e5).trans e6) hcw) (by rw [hwl]; exact rlt i hi) ⟨rfl, _, rfl, tst (fun c => ⟨_, rfl, hz _ c (Same.refl _)⟩) fun c => hN _ c (Same.refl _)⟩⟩
    generalize hA1 : (wRoom T.ns L).filter (fun i => decide (it (T.wish.getD i none) = .non)) = A1 at h5
    generalize hA2 : (wRoom T.ns L).filter (fun i => !decide (it (T.wish.getD i none) = .non)) = A2 at h6
    have l1 : A1.length ≤ L.length := by rw [← hA1]; exact Nat.le_trans (List.length_filter_le _ _) lR
    have l2 : A2.length ≤ L.length := by rw [← hA2]; exact Nat.le_trans (List.length_filter_le _ _) lR
    refine catL (e6 _ _ h5) h6 (by rw [List.length_map, List.length_map]; show _ ≤ 16777216; omega) fun p7 hp7 => ?_
    have e17 := (e14.trans (e5.trans e6)).trans (Same.new (o := .lst (A1.map nt ++ A2.map nt)) hp7)
    have hAs : ∀ H', Same (upd H6 p7 (.lst (A1.map nt ++ A2.map nt))) H' → SqL K H' p7 ((A1 ++ A2).map nt) := fun H' e => by
      rw [List.map_append]; exact SqL.of (e _ _ upd_same)
    dsimp only [gName, List.set_cons_succ, List.set_cons_zero]
    refine sqI (ifI ⟨_, rfl, by decide, fun p8 hp8 => eqNilN (A1 ++ A2) (hAs _ (Same.new hp8)) (SqL.of upd_same) ⟨_, rfl, tst (fun c2 => ?_) fun c2 => ?_⟩⟩)
    · exact ⟨by decide, fun p9 hp9 => q _ p9 _ [] (e17.trans ((Same.new hp8).trans (Same.new hp9))) (ne_none_of (e17.trans (Same.new hp8)) hp9) upd_same .nil (.inl rfl)⟩
    · have e18 := e17.trans (Same.new (o := .lst []) hp8)
      have hw8 : Same (upd H3 p4 (.lst [])) (upd (upd H6 p7 (.lst (A1.map nt ++ A2.map nt))) p8 (.lst [])) := (e5.trans e6).trans ((Same.new hp7).trans (Same.new hp8))
      refine nxI ?_
      dsimp only [List.set_cons_succ, List.set_cons_zero]
      refine sqI (asI ⟨_, rfl, _, rfl, _, _, rfl, b, D2, (wrong T.wish L).map nt, rfl, rfl, hb.mono e18, SqL.of (hw8 _ _ hw4), by simpa using hwr, by rw [List.length_map]; omega, fun H9 v9 e9 hv9 => ?_⟩)
      obtain ⟨p, hpw, rfl⟩ := List.mem_map.mp hv9
      obtain ⟨v, hv1, hv2⟩ := mem_wrong.mp hpw
      have hpL : p < L.length := by rw [← hwl]; exact (List.getElem?_eq_some_iff.mp hv1).1
      have hpR := hst p hpw
      obtain ⟨x0, R0, hx0⟩ : ∃ x0 R0, A1 ++ A2 = x0 :: R0 := by
        cases h : A1 ++ A2 with
        | nil => rw [h] at c2; cases c2
        | cons x r => exact ⟨x, r, rfl⟩
      have hxm : x0 ∈ wRoom T.ns L := by
        have : x0 ∈ A1 ++ A2 := by rw [hx0]; exact List.mem_cons_self
        rcases List.mem_append.mp this with h | h
        · rw [← hA1] at h; exact (List.mem_filter.mp h).1
        · rw [← hA2] at h; exact (List.mem_filter.mp h).1
      have hxr := (mem_room rt.val).mp hxm
      have hfree : T.wish[x0]? ≠ some none → ∀ i, RoomAt T.ns L i → T.wish[i]? ≠ some none := by
        intro h i hi hni
        have hi1 : i ∈ A1 := by
          rw [← hA1]
          refine List.mem_filter.mpr ⟨(mem_room rt.val).mpr hi, decide_eq_true ?_⟩
          rw [List.getD_eq_getElem?_getD, hni]; rfl
        have hx1 : x0 ∈ A1 := by
          cases A1 with
          | nil => cases hi1
          | cons y r => rw [List.cons_append] at hx0; cases hx0; exact List.mem_cons_self
        rw [← hA1] at hx1
        have := it_none.mp (of_decide_eq_true (List.mem_filter.mp hx1).2)
        apply h
        rw [getD_get (by rw [hwl]; exact hxr.1), this]
      have e19 := e18.trans e9
      have h0 : ((A1 ++ A2).map nt)[0]? = some (nt x0) := by rw [hx0]; rfl
      dsimp only [gName, List.set_cons_succ, List.set_cons_zero]
      refine sqI (asI ⟨_, rfl, _, rfl, ixL (hAs _ ((Same.new hp8).trans e9)) (atI_nat (j := 0) h0) ⟨_, rfl, (by show 2 ≤ sizeLine; decide), fun p10 hp10 => ⟨(by show 1 ≤ sizeLine; decide), fun p11 hp11 => ?_⟩⟩⟩)
      have f11 := (Same.new (o := .tup [nt x0, nt p]) hp10).trans (Same.new (o := .tup [.ref p10]) hp11)
      have e111 := e19.trans f11
      have hap : x0 ≠ p := fun z => hpR (z ▸ hxr)
      refine ⟨_, _, rfl, L, [(x0, p)], ⟨a, rfl, same_t e111 ha⟩, ⟨p11, _, rfl, SqT.of upd_same, .cons ⟨p10, rfl, Same.new hp11 _ _ upd_same⟩ .nil⟩, by omega, by show 1 ≤ 1000; decide, fun q' hq' => by rw [List.mem_singleton.mp hq']; exact ⟨hxr.1, hpL⟩, fun H12 v12 e12' hv12 => ?_⟩
      obtain ⟨p12, rfl, hb12⟩ := hv12
      have e112 := e111.trans e12'
      have hlp : (ledS L [(x0, p)]).getD p none = L.getD p none := by
        rw [led_one, List.getD_eq_getElem?_getD, List.getD_eq_getElem?_getD, List.getElem?_set_ne hap]
      have g1 : GoodS T.ns L [(x0, p)] := good_one rt hxr hpL (Ne.symm hap) (fun z => hpR ⟨hpL, fun w hw => by rw [z] at hw; cases hw⟩)
      dsimp only [gName, List.set_cons_succ, List.set_cons_zero]
      refine rtI ⟨_, rfl, ixL (hAs _ ((Same.new hp8).trans (e9.trans (f11.trans e12')))) (atI_nat (j := 0) h0) ⟨_, rfl, (by show 2 ≤ sizeLine; decide), fun p13 hp13 => ?_⟩⟩
      have e113 := e112.trans (Same.new (o := .tup [nt x0, nt p]) hp13)
      refine ⟨_, rfl, _, rfl, _, rfl, _, rfl, _, rfl, ntD (same_t e113 hcw) (by rw [hwl]; exact hpL) ⟨_, _, _, rfl, ledS L [(x0, p)], p, T.wish.getD p none, ⟨p12, rfl, same_t (Same.new hp13) hb12⟩, rfl, rfl, by rw [ledS_len]; omega, ?_, fun H14 s e14' hs1 hs2 => ?_⟩⟩
      · rw [getD_some.mpr hv1]
        exact src_ex gt (right_led rt g1) hv1 (by rw [hlp]; exact hv2)
      · rw [getD_some.mpr hv1] at hs1
        refine ⟨(by show 2 ≤ sizeLine; decide), fun p15 hp15 => ⟨(by show 2 ≤ sizeLine; decide), fun p16 hp16 => ?_⟩⟩
        have f16 := (Same.new (o := .tup [nt p, nt s]) hp15).trans (Same.new (o := .lst [.ref p13, .ref p15]) hp16)
        obtain ⟨g2, g3⟩ := aside_good rt hxr hpR hpL hs1 hs2
        refine q _ p16 _ [(x0, p), (p, s)] (e113.trans (e14'.trans f16)) (ne_none_of ((e113.trans e14').trans (Same.new hp15)) hp16) upd_same (.cons ⟨p13, rfl, f16 _ _ (e14' _ _ upd_same)⟩ (.cons ⟨p15, rfl, Same.new hp16 _ _ upd_same⟩ .nil)) (.inr (.inr ⟨x0, p, s, rfl, g2, g3, ?_⟩))
        exact mu_aside gt rt hwl hst hxr hfree hv1 hv2 hs1
end Wm
set_option Elab.async false
set_option linter.all false
set_option maxRecDepth 100000
set_option maxHeartbeats 4000000
/-! plans made, joined; layouts -/
namespace Wm
open PySem PySem.Spec PyProof.Rows L2
theorem sc_law_layouts : FnScope ["_law_task_here", "_law_plan", "_law_found", "_law_stretch"] ["_law_task_here", "_law_plan"] (defScope s_law_layouts) := ⟨rfl, rfl, rfl, by decide +kernel, rfl, by decide +kernel, by decide +kernel⟩
theorem d_law_layouts {P : Program} {w : World} {K : PySem.W.Frag} {mg : Str → Option Value} {base : Heap} (W : Wd K mg base) : DnG P w K mg base 2 "_law_layouts" (sp2 (pLays K)) := by
  refine W.dnG (st := s_law_layouts) (ps := ["_law_task_here", "_law_plan"]) 48 48 rfl rfl (fun _ _ _ _ _ _ us hl => match us, hl with | [_, _], _ => rfl) fun f fd F => ?_
  refine FnG.ofD F sc_law_layouts (fun vs H Q E h => ?_) (fun cdv A outer s H vs Q E hg hr h => ?_)
  · obtain ⟨_, _, rfl, _⟩ := h; rfl
  obtain ⟨x, y, rfl, h⟩ := h
  refine ⟨_, PSs.nox (pss_cons (ps_set (i := 2) sc_law_layouts.nd rfl (Or.inl rfl) (pe_lst (pa_cons (pe_ix (ix_any (K := K)) (pv 0) pe_int (fun _ _ => rfl)) pa_nil)))
      (pss_cons (ps_for PassesOwn.never rfl (pi_tupK (K := K) (pv 1)) (pg_name (i := 3) sc_law_layouts.nd rfl (Or.inl rfl)) (pss_one (ps_expr (pe_bmK (K := K) PySem.F.plainAttrs_list PySem.F.slot_list_append PySem.F.type_list_append mt_append (pv 2) (pa_cons (pe_fnG (d_law_led W) hg (hr.mono (by decide)) rfl (pa_cons (pe_ix (ix_any (K := K)) (pv 2) (pe_un un_neg pe_int) (fun _ _ => rfl)) (pa_cons (pv 3) pa_nil))) pa_nil)))))
      (pss_one (ps_ret (pv 2))))), ?_⟩
  rw [show L2.start ["_law_task_here", "_law_plan", "_law_found", "_law_stretch"] [x, y] = [some x, some y, none, none] from rfl]
  obtain ⟨T, P, hTk, ⟨c, xs, rfl, hc, hP⟩, hg, hl, hpl, q⟩ := h
  obtain ⟨t, y1, y2, y3, rfl, ht, hns, hold, hwish⟩ := hTk.open
  refine sqI (asI ⟨_, rfl, ixT ht rfl ⟨(by show 1 ≤ sizeLine; decide), fun p hp => ?_⟩⟩)
  have s0 : Same H (upd H p (.lst [y2])) := Same.new hp
  refine ⟨_, rfl, c, rfl, ⟨xs, same_t s0 hc⟩, for_tup (xs := xs) (fun i σ H' => (∃ o3, σ = [some (.ref t), some (.ref c), some (.ref p), o3]) ∧ Same H H' ∧ ∃ ls, H' p = some (.lst ls) ∧ Paired (LyT K H') ls (lays T.old (P.take i))) ?_ ?_ ?_ ?_⟩
  · exact ⟨⟨_, rfl⟩, s0, [y2], upd_same, .cons (hold.mono s0) .nil⟩
  · exact fun i σ H' _ hP => same_t hP.2.1 hc
  · rintro i x σ H1 hx ⟨⟨o3, rfl⟩, sm, ls, hy, hls⟩
    obtain ⟨S, hS, hSt⟩ := pd_get hP hx
    have hil := (List.getElem?_eq_some_iff.mp hS).1
    have et : P.take (i + 1) = P.take i ++ [S] := by rw [List.take_add_one, hS]; rfl
    have gS : GoodS T.ns (lastL T.old (P.take i)) S := by
      have h1 := (goodP_app (P.take i) (P.drop i) T.old).mp (by rw [List.take_append_drop]; exact hg)
      have h2 : P.drop i = S :: P.drop (i + 1) := by
        obtain ⟨h3, h4⟩ := List.getElem?_eq_some_iff.mp hS
        rw [← h4]; exact List.drop_eq_getElem_cons h3
      rw [h2] at h1
      exact h1.2.1
    have hll : (lays T.old (P.take i)).length = i + 1 := by rw [lays_len, List.length_take]; omega
    have hlst : (lays T.old (P.take i))[i]? = some (lastL T.old (P.take i)) := by
      rw [lays_get _ _ i (by rw [List.length_take]; omega), List.take_take, Nat.min_self]
    obtain ⟨z, hz, hzL⟩ := pd_at hls hlst
    have hlen : ls.length = i + 1 := by rw [hls.length, hll]
    have hlast : atI ls (-1) = some z := by
      obtain ⟨zs, z', e⟩ : ∃ zs z', ls = zs ++ [z'] := by
        rcases List.eq_nil_or_concat ls with h | ⟨zs, z', h⟩
        · rw [h] at hlen; simp at hlen
        · exact ⟨zs, z', by rw [h, List.concat_eq_append]⟩
      subst e
      have : zs.length = i := by simpa using hlen
      rw [List.getElem?_append_right (by omega), this, Nat.sub_self] at hz
      cases hz
      exact atI_last zs z
    refine ⟨_, rfl, .inl ⟨rfl, _, SqL.of hy⟩, _, rfl, _, rfl, ixL (SqL.of hy) hlast ⟨_, rfl, _, _, rfl, lastL T.old (P.take i), S, hzL, hSt.mono sm, by rw [lastL_len]; omega, by have := gS.len; rw [lastL_len] at this; omega, gS.low, fun H2 v2 e2 hv2 => ?_⟩⟩
    refine ⟨p, ls, _, rfl, rfl, e2 _ _ hy, by rw [hlen]; show _ < 16777216; have := hP.length; omega, ⟨_, rfl⟩, Same.mut (sm.trans e2) hp, _, upd_same, ?_⟩
    rw [et, lays_snoc]
    exact pd_snoc (lyT_mut (e2 _ _ hy) hv2) (lys_mut (e2 _ _ hy) (lys_mono e2 hls))
  · rintro σ H1 ⟨⟨o3, rfl⟩, sm, ls, hy, hls⟩
    have e : P.take xs.length = P := by rw [hP.length, List.take_length]
    rw [e] at hls
    exact ⟨_, rfl, q _ _ _ sm hy hls⟩
theorem sc_law_made_plan : FnScope ["_law_bag_here", "_law_task_here", "_law_layout", "_law_plan", "_law_copies", "_law_copy"] ["_law_bag_here", "_law_task_here"] (defScope s_law_made_plan) := ⟨rfl, rfl, rfl, by decide +kernel, rfl, by decide +kernel, by decide +kernel⟩
theorem d_law_made_plan {P : Program} {w : World} {K : PySem.W.Frag} {mg : Str → Option Value} {base : Heap} (W : Wd K mg base) : DnG P w K mg base 5 "_law_made_plan" (sp2 (pMade K)) := by
  refine W.dnG (st := s_law_made_plan) (ps := ["_law_bag_here", "_law_task_here"]) 46 46 rfl rfl (fun _ _ _ _ _ _ us hl => match us, hl with | [_, _], _ => rfl) fun f fd F => ?_
  refine FnG.ofD F sc_law_made_plan (fun vs H Q E h => ?_) (fun cdv A outer s H vs Q E hg hr h => ?_)
  · obtain ⟨_, _, rfl, _⟩ := h; rfl
  have hu := hr.units
  obtain ⟨x, y, rfl, h⟩ := h
  refine ⟨_, PSs.nox (pss_cons (ps_par (i := 2) (j := 3) rfl sc_law_made_plan.nd rfl rfl (by decide) rfl rfl (pa_cons (pe_ix (ix_any (K := K)) (pv 1) pe_int (fun _ _ => rfl)) (pa_cons (pe_lst pa_nil) pa_nil)) (by rfl))
      (pss_cons (ps_while PassesOwn.never (pt_not (pt_val (pe_fnG (d_law_is_wanted W) hg (hr.mono (by decide)) rfl (pa_cons (pe_ix (ix_any (K := K)) (pv 1) pe_int (fun _ _ => rfl)) (pa_cons (pv 2) pa_nil))))) (pss_cons (ps_set (i := 4) sc_law_made_plan.nd rfl (Or.inl rfl) (pe_fnG (d_law_next_copies W) hg (hr.mono (by decide)) rfl (pa_cons (pv 0) (pa_cons (pv 1) (pa_cons (pv 2) pa_nil)))))
      (pss_cons (ps_if (pt_cmpR (op_eqA hu (K := K)) (pv 4) (pe_lst pa_nil) (nomark _)) (pss_one (ps_ret pe_non)) pss_nil)
      (pss_one (ps_for PassesOwn.never rfl (pi_listK (K := K) (pv 4)) (pg_name (i := 5) sc_law_made_plan.nd rfl (Or.inl rfl)) (pss_cons (ps_expr (pe_bmK (K := K) PySem.F.plainAttrs_list PySem.F.slot_list_append PySem.F.type_list_append mt_append (pv 3) (pa_cons (pe_tup (pa_cons (pv 5) pa_nil)) pa_nil)))
      (pss_one (ps_set (i := 2) sc_law_made_plan.nd rfl (Or.inl rfl) (pe_fnG (d_law_led W) hg (hr.mono (by decide)) rfl (pa_cons (pv 2) (pa_cons (pe_ix (ix_any (K := K)) (pv 3) (pe_un un_neg pe_int) (fun _ _ => rfl)) pa_nil)))))))))))
      (pss_one (ps_ret (pe_callTy call_tuple_of rfl (W.free 76) boot_tuple (pa_cons (pv 3) pa_nil)))))), ?_⟩
  rw [show L2.start ["_law_bag_here", "_law_task_here", "_law_layout", "_law_plan", "_law_copies", "_law_copy"] [x, y] = [some x, some y, none, none, none, none] from rfl]
  obtain ⟨b, T, rfl, hb, hT, gt, hl, hn, q⟩ := h
  have hT0 := hT
  obtain ⟨t, y1, y2, y3, rfl, ht, hns, hold, hwish⟩ := hT.open
  refine sqI ⟨_, rfl, ixT ht rfl ⟨by decide, fun p hp => ⟨_, _, rfl, ?_⟩⟩⟩
  have hwl : T.wish.length = T.old.length := gt.len.symm
  have mu0 := mu_le T.ns T.wish T.old
  have lW : (wrong T.wish T.old).length ≤ T.wish.length := selF_len _ _ T.wish 0
  dsimp only [List.set_cons_succ, List.set_cons_zero]
  refine sqI ⟨fun m σ H1 => ∃ o4 o5 v2 xs P, σ = [some (.ref b), some (.ref t), some v2, some (.ref p), o4, o5] ∧ Same H H1 ∧ H1 p = some (.lst xs) ∧ Paired (StT K H1) xs P ∧ LyT K H1 v2 (lastL T.old P) ∧ GoodP T.ns T.old P ∧ m = mu T.ns T.wish (lastL T.old P) ∧ P.length + 2 * m ≤ 2 * mu T.ns T.wish T.old, ?_, ?_⟩
  · exact ⟨_, none, none, y2, [], [], rfl, Same.new hp, upd_same, .nil, hold.mono (Same.new hp), trivial, rfl, by show 0 + _ ≤ _; rw [Nat.zero_add]; exact Nat.le_refl _⟩
  · rintro m σ H1 ⟨o4, o5, v2, xs, P, rfl, sm, hy, hP, hL, hg, rfl, hm⟩
    have hLl := lastL_len P T.old
    have hr := right_last gt.old hg
    refine ⟨_, rfl, ixT (same_t sm ht) rfl ⟨_, rfl, _, _, rfl, T.wish, lastL T.old P, hwish.mono sm, hL, by omega, by rw [hLl]; exact hwl, fun H2 e2 => ⟨_, rfl, tst (fun c1 => ?_) fun c1 => ?_⟩⟩⟩
    · have hw1 : wrong T.wish (lastL T.old P) ≠ [] := fun z => by rw [z] at c1; cases c1
      refine ⟨fun σ' H' => ∃ m', m' < mu T.ns T.wish (lastL T.old P) ∧ ∃ o4 o5 v2 xs P, σ' = [some (.ref b), some (.ref t), some v2, some (.ref p), o4, o5] ∧ Same H H' ∧ H' p = some (.lst xs) ∧ Paired (StT K H') xs P ∧ LyT K H' v2 (lastL T.old P) ∧ GoodP T.ns T.old P ∧ m' = mu T.ns T.wish (lastL T.old P) ∧ P.length + 2 * m' ≤ 2 * mu T.ns T.wish T.old, fun _ _ h => h, ?_⟩
      refine sqI (asI ⟨_, rfl, _, rfl, _, rfl, _, _, _, rfl, b, T, lastL T.old P, rfl, hb.mono (sm.trans e2), hT0.mono (sm.trans e2), hL.mono e2, gt, hr, hLl, by omega, hn, hw1, fun H3 c3 cs S e3 hc3n hc3 hcs hNC => ?_⟩)
      have e13 := e2.trans e3
      have hcp : c3 ≠ p := fun z => by rw [z, e2 _ _ hy] at hc3n; cases hc3n
      have hSl : S.length ≤ 2 := by
        rcases hNC with rfl | ⟨_, _, rfl, _⟩ | ⟨_, _, _, rfl, _⟩
        · exact Nat.zero_le _
        · show 1 ≤ 2; decide
        · show 2 ≤ 2; decide
      have hgS : GoodP T.ns T.old (P ++ sgl S) := (goodP_app P (sgl S) T.old).mpr ⟨hg, hNC.goodP⟩
      have hgj : ∀ j, GoodP T.ns T.old (P ++ sgl (S.take j)) := fun j => by
        have : P ++ sgl S = (P ++ sgl (S.take j)) ++ sgl (S.drop j) := by rw [List.append_assoc, ← sgl_app, List.take_append_drop]
        rw [this] at hgS
        exact ((goodP_app _ _ _).mp hgS).1
      dsimp only [gName, List.set_cons_succ, List.set_cons_zero]
      refine sqI (ifI ⟨_, rfl, by decide, fun p4 hp4 => eqNilP (Same.new hp4 _ _ hc3 |> SqL.of) (Prs.mono (Same.new hp4) hcs) (SqL.of upd_same) ⟨_, rfl, tst (fun c2 => ?_) fun c2 => ?_⟩⟩)
      · exact q _ _ ((sm.trans e13).trans (Same.new hp4)) (.inl rfl)
      · have s4 := Same.new (o := .lst []) hp4
        have hSn : S ≠ [] := fun z => by rw [z] at c2; cases c2
        refine nxI ?_
        refine ⟨_, rfl, c3, rfl, ⟨cs, SqL.of (s4 _ _ hc3)⟩, for_list (xs := cs) (fun j σ H' => ∃ o5 v2 xs', σ = [some (.ref b), some (.ref t), some v2, some (.ref p), some (.ref c3), o5] ∧ Same H H' ∧ H' c3 = some (.lst cs) ∧ Prs K H' cs S ∧ H' p = some (.lst xs') ∧ Paired (StT K H') xs' (P ++ sgl (S.take j)) ∧ LyT K H' v2 (lastL T.old (P ++ sgl (S.take j)))) ?_ ?_ ?_ ?_⟩
        · refine ⟨_, _, xs, rfl, (sm.trans e13).trans s4, s4 _ _ hc3, Prs.mono s4 hcs, s4 _ _ (e13 _ _ hy), ?_, ?_⟩
          · rw [List.take_zero, sgl_nil, List.append_nil]; exact sts_mono (e13.trans s4) hP
          · rw [List.take_zero, sgl_nil, List.append_nil]; exact hL.mono (e13.trans s4)
        · rintro j σ H' _ ⟨_, _, _, _, _, h, _⟩
          exact SqL.of h
        · rintro j x σ H5 hx ⟨o5, v5, xs5, rfl, sm5, hc5, hcs5, hy5, hP5, hL5⟩
          obtain ⟨q1, hq1, hqp⟩ := pd_get hcs5 hx
          have et : sgl (S.take (j + 1)) = sgl (S.take j) ++ [[q1]] := by rw [List.take_add_one, hq1]; exact sgl_snoc _ _
          have gq : GoodS T.ns (lastL T.old (P ++ sgl (S.take j))) [q1] := by
            have := hgj (j + 1)
            rw [et, ← List.append_assoc] at this
            exact ((goodP_snoc _ _ _).mp this).2
          have hl5 : xs5.length = P.length + (S.take j).length := by rw [hP5.length, List.length_append, sgl_len]
          have hj2 : (S.take j).length ≤ 2 := by rw [List.length_take]; omega
          refine sqI ⟨_, rfl, .inl ⟨rfl, _, SqL.of hy5⟩, _, rfl, (by show 1 ≤ sizeLine; decide), fun p6 hp6 => ?_⟩
          have s6 := Same.new (o := .tup [x]) hp6
          refine ⟨p, xs5, _, rfl, rfl, s6 _ _ hy5, by rw [hl5]; show _ < 16777216; omega, ?_⟩
          have hy6 : upd H5 p6 (.tup [x]) p = some (.lst xs5) := s6 _ _ hy5
          have hst : StT K (upd H5 p6 (.tup [x])) (.ref p6) [q1] := ⟨p6, [x], rfl, SqT.of upd_same, .cons (hqp.mono s6) .nil⟩
          dsimp only [List.set_cons_succ, List.set_cons_zero]
          refine asI ⟨_, rfl, _, rfl, _, rfl, ixL (SqL.of upd_same) (atI_last _ _) ⟨_, _, rfl, lastL T.old (P ++ sgl (S.take j)), [q1], lyT_mut hy6 (hL5.mono s6), stT_mut hy6 hst, by rw [lastL_len]; omega, by show 1 ≤ 1000; decide, gq.low, fun H7 v7 e7 hv7 => ?_⟩⟩
          refine ⟨_, _, xs5 ++ [.ref p6], rfl, ?_, ?_, ?_, e7 _ _ upd_same, ?_, ?_⟩
          · exact (Same.mut (sm5.trans s6) hp).trans e7
          · exact e7 _ _ (by rw [upd_ne hcp]; exact s6 _ _ hc5)
          · exact Prs.mono e7 (prs_mut hy6 (Prs.mono s6 hcs5))
          · rw [et, ← List.append_assoc]
            exact sts_mono e7 (pd_snoc (stT_mut hy6 hst) (sts_mut hy6 (sts_mono s6 hP5)))
          · rw [et, ← List.append_assoc, lastL_snoc]
            exact hv7
        · rintro σ H5 ⟨o5, v5, xs5, rfl, sm5, hc5, hcs5, hy5, hP5, hL5⟩
          have e : S.take cs.length = S := by rw [hcs.length, List.take_length]
          rw [e] at hP5 hL5
          obtain ⟨hm1, _⟩ := hNC.mu hSn
          rw [← lastL_app] at hm1
          refine ⟨_, hm1, _, _, v5, xs5, P ++ sgl S, rfl, sm5, hy5, hP5, hL5, hgS, rfl, ?_⟩
          rw [List.length_append, sgl_len]
          omega
    · have hw0 : wrong T.wish (lastL T.old P) = [] := by
        cases h : wrong T.wish (lastL T.old P) with
        | nil => rfl
        | cons x r => rw [h] at c1; cases c1
      dsimp only [List.set_cons_succ, List.set_cons_zero]
      refine rtI (cb1 ⟨_, rfl, p, xs, rfl, .inl ⟨SqL.of (e2 _ _ hy), fun l hl2 => q _ _ ((sm.trans e2).trans (Same.new hl2)) (.inr ⟨P, ⟨l, xs, rfl, SqT.of upd_same, sts_mono (e2.trans (Same.new hl2)) hP⟩, hg, hw0, by omega⟩)⟩⟩)
end Wm
set_option Elab.async false
set_option linter.all false
set_option maxRecDepth 100000
set_option maxHeartbeats 4000000
/-! plans joined -/
namespace Wm
open PySem PySem.Spec PyProof.Rows L2
theorem len_last {α : Type} {ls : List α} (h : ls ≠ []) : ∃ zs z, ls = zs ++ [z] := by
  rcases List.eq_nil_or_concat ls with e | ⟨zs, z, e⟩
  · exact absurd e h
  · exact ⟨zs, z, by rw [e, List.concat_eq_append]⟩
theorem pd_last {α β : Type} {F : α → β → Prop} {l : List α} {m : List β} {y : β} (h : Paired F l (m ++ [y])) : ∃ l0 x, l = l0 ++ [x] ∧ Paired F l0 m ∧ F x y := by
  induction m generalizing l with
  | nil =>
    cases h with
    | cons h t => cases t; exact ⟨[], _, rfl, .nil, h⟩
  | cons a m ih =>
    cases h with
    | cons h t =>
      obtain ⟨l0, x, rfl, h1, h2⟩ := ih t
      exact ⟨_ :: l0, x, rfl, .cons h h1, h2⟩
theorem pd_app {α β : Type} {F : α → β → Prop} : ∀ {l l' : List α} {m m' : List β}, Paired F l m → Paired F l' m' → Paired F (l ++ l') (m ++ m')
  | _, _, _, _, .nil, h => h
  | _, _, _, _, .cons h t, q => .cons h (pd_app t q)
theorem sc_law_joined_plan : FnScope ["_law_bag_here", "_law_task_here", "_law_plan", "_law_found", "_law_layout", "_law_begun", "_law_place", "_law_source", "_law_stretch", "_law_both", "_law_places", "_law_free"] ["_law_bag_here", "_law_task_here", "_law_plan"] (defScope s_law_joined_plan) := ⟨rfl, rfl, rfl, by decide +kernel, rfl, by decide +kernel, by decide +kernel⟩
theorem d_law_joined_plan {P : Program} {w : World} {K : PySem.W.Frag} {mg : Str → Option Value} {base : Heap} (W : Wd K mg base) : DnG P w K mg base 4 "_law_joined_plan" (sp3 (pJoin K)) := by
  refine W.dnG (st := s_law_joined_plan) (ps := ["_law_bag_here", "_law_task_here", "_law_plan"]) 47 47 rfl rfl (fun _ _ _ _ _ _ us hl => match us, hl with | [_, _, _], _ => rfl) fun f fd F => ?_
  refine FnG.ofD F sc_law_joined_plan (fun vs H Q E h => ?_) (fun cdv A outer s H vs Q E hg hr h => ?_)
  · obtain ⟨_, _, _, rfl, _⟩ := h; rfl
  have hu := hr.units
  obtain ⟨x, y, z, rfl, h⟩ := h
  refine ⟨_, PSs.nox (pss_cons (ps_set (i := 3) sc_law_joined_plan.nd rfl (Or.inl rfl) (pe_lst pa_nil))
      (pss_cons (ps_par (i := 4) (j := 5) rfl sc_law_joined_plan.nd rfl rfl (by decide) rfl rfl (pa_cons (pe_ix (ix_any (K := K)) (pv 1) pe_int (fun _ _ => rfl)) (pa_cons (pe_ix (ix_any (K := K)) (pv 1) pe_int (fun _ _ => rfl)) pa_nil)) (by rfl))
      (pss_cons (ps_for PassesOwn.never rfl (pi_tupK (K := K) (pv 2)) (pg_name (i := 8) sc_law_joined_plan.nd rfl (Or.inl rfl)) (pss_cons (ps_set (i := 9) sc_law_joined_plan.nd rfl (Or.inl rfl) (pe_ifExp (pt_cmpR (op_neA hu (K := K)) (pv 3) (pe_lst pa_nil) (nomark _)) (pe_callB cr_sortTu rfl (W.free 81) boot_sorted (pa_cons (pe_op (op_addA (K := K)) (pe_ix (ix_any (K := K)) (pv 3) (pe_un un_neg pe_int) (fun _ _ => rfl)) (pv 8)) pa_nil)) (pe_lst pa_nil)))
      (pss_cons (ps_set (i := 10) sc_law_joined_plan.nd rfl (Or.inr rfl) (pe_lc (own := [("_law_place", 6), ("_law_source", 7)]) rfl sc_law_joined_plan.nd (pi_listK (K := K) (pv 9)) (blkOk_by (by kernel_rfl)) (fun _ _ _ _ _ => (pg_tupK (K := K) (n := 2) rfl (pgs_cons (pg_name (i := 6) sc_law_joined_plan.nd rfl (Or.inl rfl)) (pgs_cons (pg_name (i := 7) sc_law_joined_plan.nd rfl (Or.inl rfl)) pgs_nil)))) (fun _ _ _ _ _ => pts_nil) (fun _ _ _ _ _ => (pv 6))))
      (pss_cons (ps_set (i := 11) sc_law_joined_plan.nd rfl (Or.inl rfl) (pe_and (pe_cmpR (op_eqA hu (K := K)) (pe_lc (own := [("_law_place", 6), ("_law_source", 7)]) rfl sc_law_joined_plan.nd (pi_listK (K := K) (pv 9)) (blkOk_by (by kernel_rfl)) (fun _ _ _ _ _ => (pg_tupK (K := K) (n := 2) rfl (pgs_cons (pg_name (i := 6) sc_law_joined_plan.nd rfl (Or.inl rfl)) (pgs_cons (pg_name (i := 7) sc_law_joined_plan.nd rfl (Or.inl rfl)) pgs_nil)))) (fun _ _ _ _ _ => (pts_one (pt_cmpR (op_inA (K := K)) (pv 7) (pv 10) (by rfl)))) (fun _ _ _ _ _ => (pv 7))) (pe_lst pa_nil) (nomark _)) (pe_one (pe_cmpR (op_eqA hu (K := K)) (pe_lenSetJ rfl (W.free 71) rfl (W.free 87) (pv 10)) (pe_callB (call_lenK (K := K)) rfl (W.free 71) PySem.boot_len (pa_cons (pv 10) pa_nil)) (nomark _)))))
      (pss_cons (ps_if (PW.pt (pw_and (pt_cmpR (op_neA hu (K := K)) (pv 3) (pe_lst pa_nil) (nomark _)) (pw_and (pt_val (pv 11)) (pw_and (pt_val (pe_fnG (d_law_is_safe W) hg (hr.mono (by decide)) rfl (pa_cons (pe_ix (ix_any (K := K)) (pv 1) pe_int (fun _ _ => rfl)) (pa_cons (pv 5) (pa_cons (pv 9) pa_nil))))) (pw_and1 (pt_cmpR op_gt (pe_fnG (d_law_take W) hg (hr.mono (by decide)) rfl (pa_cons (pv 0) (pa_cons pe_int pa_nil))) pe_int (nomark _))))))) (pss_one (ps_asg (pe_callTy call_tuple_of rfl (W.free 76) boot_tuple (pa_cons (pv 9) pa_nil)) (pg_sub (pv 3) (pe_un un_neg pe_int) set_list))) (pss_cons (ps_set (i := 5) sc_law_joined_plan.nd rfl (Or.inl rfl) (pv 4))
      (pss_one (ps_expr (pe_bmK (K := K) PySem.F.plainAttrs_list PySem.F.slot_list_append PySem.F.type_list_append mt_append (pv 3) (pa_cons (pv 8) pa_nil))))))
      (pss_one (ps_set (i := 4) sc_law_joined_plan.nd rfl (Or.inl rfl) (pe_fnG (d_law_led W) hg (hr.mono (by decide)) rfl (pa_cons (pv 4) (pa_cons (pv 8) pa_nil))))))))))
      (pss_one (ps_ret (pe_callTy call_tuple_of rfl (W.free 76) boot_tuple (pa_cons (pv 3) pa_nil))))))), ?_⟩
  rw [show L2.start ["_law_bag_here", "_law_task_here", "_law_plan", "_law_found", "_law_layout", "_law_begun", "_law_place", "_law_source", "_law_stretch", "_law_both", "_law_places", "_law_free"] [x, y, z] = [some x, some y, some z, none, none, none, none, none, none, none, none, none] from rfl]
  obtain ⟨b, T, P, rfl, hb, hT, ⟨c, cs, rfl, hc, hP⟩, hg, hl, hn, hPl, q⟩ := h
  have hT0 := hT
  obtain ⟨t, y1, y2, y3, rfl, ht, hns, hold, hwish⟩ := hT.open
  refine sqI (asI ⟨by decide, fun p hp => ?_⟩)
  have s0 : Same H (upd H p (.lst [])) := Same.new hp
  dsimp only [gName, List.set_cons_succ, List.set_cons_zero]
  refine sqI ⟨_, rfl, ixT (same_t s0 ht) rfl ⟨_, rfl, ixT (same_t s0 ht) rfl ⟨_, _, rfl, ?_⟩⟩⟩
  dsimp only [List.set_cons_succ, List.set_cons_zero]
  refine sqI ⟨_, rfl, c, rfl, ⟨cs, same_t s0 hc⟩, for_tup (xs := cs) (fun i σ H' => ∃ o8 o9 o10 o11 vl vb xs F, σ = [some (.ref b), some (.ref t), some (.ref c), some (.ref p), some vl, some vb, none, none, o8, o9, o10, o11] ∧ Same H H' ∧ H' p = some (.lst xs) ∧ Paired (StT K H') xs F ∧ GoodP T.ns T.old F ∧ lastL T.old F = lastL T.old (P.take i) ∧ LyT K H' vl (lastL T.old F) ∧ F.length ≤ i ∧ (F = [] ∨ ∃ F0 S1, F = F0 ++ [S1] ∧ LyT K H' vb (lastL T.old F0))) ?_ ?_ ?_ ?_⟩
  · exact ⟨_, _, _, _, y2, y2, [], [], rfl, s0, upd_same, .nil, trivial, rfl, hold.mono s0, Nat.le_refl _, .inl rfl⟩
  · rintro i σ H' _ ⟨_, _, _, _, _, _, _, _, _, sm, _⟩
    exact same_t sm hc
  · rintro i x σ H1 hx ⟨o8, o9, o10, o11, vl, vb, xs, F, rfl, sm, hy, hF, hgF, hlast, hvl, hFl, hFc⟩
    obtain ⟨S, hS, hSt⟩ := pd_get hP hx
    have hil := (List.getElem?_eq_some_iff.mp hS).1
    have et : P.take (i + 1) = P.take i ++ [S] := by rw [List.take_add_one, hS]; rfl
    have gS : GoodS T.ns (lastL T.old F) S := by
      have h1 := (goodP_app (P.take i) (P.drop i) T.old).mp (by rw [List.take_append_drop]; exact hg)
      have h2 : P.drop i = S :: P.drop (i + 1) := by
        obtain ⟨h3, h4⟩ := List.getElem?_eq_some_iff.mp hS
        rw [← h4]; exact List.drop_eq_getElem_cons h3
      rw [h2] at h1
      rw [hlast]
      exact h1.2.1
    have hSl : S.length ≤ 100 := by have := gS.len; rw [lastL_len] at this; omega
    have hSt1 := hSt.mono sm
    obtain ⟨cS, zS, rfl, hcS, hzS⟩ := hSt1
    refine sqI (asI (ifE_cut (fun v H2 => ∃ p9 ys S', v = .ref p9 ∧ p9 ≠ p ∧ H2 p9 = some (.lst ys) ∧ Prs K H2 ys S' ∧ S'.length ≤ 300 ∧ Same H1 H2 ∧ ∀ F0 S1, F = F0 ++ [S1] → S'.Perm (S1 ++ S) ∧ ((plc (S1 ++ S)).Nodup → (plc S').Pairwise (· < ·))) (fun Q' hQ' => ?_) ?_))
    · refine ⟨_, rfl, by decide, fun p1 hp1 => neNilPl (SqL.of (Same.new hp1 _ _ hy)) (sts_mono (Same.new hp1) hF) (SqL.of upd_same) ⟨_, rfl, tst (fun c1 => ?_) fun c1 => ?_⟩⟩
      · have hFn : F ≠ [] := fun z => by rw [z] at c1; cases c1
        obtain ⟨F0, S1, rfl⟩ := len_last hFn
        obtain ⟨xs0, x1, rfl, hF0, hx1⟩ := pd_last hF
        have s1 := Same.new (o := .lst []) hp1
        obtain ⟨c1', z1, rfl, hc1, hz1⟩ := hx1.mono s1
        have hgS1 := ((goodP_snoc _ _ _).mp hgF).2
        have hS1l : S1.length ≤ 100 := by have := hgS1.len; rw [lastL_len] at this; omega
        refine cb1 ⟨_, rfl, _, rfl, ixL (SqL.of (s1 _ _ hy)) (atI_last _ _) ⟨_, rfl, catT hc1 (same_t s1 hcS) (by rw [hz1.length, hzS.length]; show _ ≤ 16777216; omega) fun H3 c3 e3 h3 => ?_⟩⟩
        have hpr : Prs K H3 (z1 ++ zS) (S1 ++ S) := pd_app (Prs.mono e3 hz1) (Prs.mono (s1.trans e3) hzS)
        refine ⟨c3, z1 ++ zS, keyP H3, rfl, h3, keyP_ok hpr, fun ys p4 h1 h2 hp4 => ?_⟩
        obtain ⟨S', hS', hperm, hasc⟩ := sorted_prs hpr h1 h2.perm
        refine hQ' _ _ ⟨p4, ys, S', rfl, fun z => ?_, upd_same, Prs.mono (Same.new hp4) hS', by rw [hperm.length_eq, List.length_append]; omega, (s1.trans e3).trans (Same.new hp4), fun F0' S1' e => ?_⟩
        · rw [z, (s1.trans e3) _ _ hy] at hp4; cases hp4
        · obtain ⟨e1, e2⟩ := List.append_inj' e rfl
          cases e2
          exact ⟨hperm, hasc⟩
      · have hFn : F = [] := by cases F with
          | nil => rfl
          | cons a r => cases c1
        refine ⟨by decide, fun p4 hp4 => hQ' _ _ ⟨p4, [], [], rfl, fun z => ?_, upd_same, .nil, Nat.zero_le _, (Same.new hp1).trans (Same.new hp4), fun F0 S1 e => ?_⟩⟩
        · rw [z, Same.new hp1 _ _ hy] at hp4; cases hp4
        · rw [hFn] at e; cases F0 <;> cases e
    · rintro _ H2 ⟨p9, ys, S', rfl, h9p, hp9, hpr, hS'l, e2, hjoin⟩
      dsimp only [gName, List.set_cons_succ, List.set_cons_zero]
      refine sqI (asI (lcI ⟨_, rfl, p9, rfl, ⟨_, SqL.of hp9⟩, mpPL ys S' (fun q => nt q.1) (SqL.of hp9) hpr (by omega) (fun q1 c H3 hq e3 hc3 Z hz => ⟨c, _, rfl, hc3, rfl, _, _, rfl, _, _, rfl, rfl, rfl, _, rfl, hz _ (Same.refl _)⟩) fun D3 H3 hD3 e3 h3 => ?_⟩))
      have hPl3 : ∀ H', Same H3 H' → SqL K H' D3 ((plc S').map nt) := fun H' e => .inl (.inl (by rw [e _ _ h3, plc, List.map_map]; rfl))
      dsimp only [gName, List.set_cons_succ, List.set_cons_zero]
      refine sqI (asI (andV_cut (fun v H4 => ∃ bb : Bool, v = .bl bb ∧ Same H3 H4 ∧ (bb = true → (∀ q ∈ S', q.2 ∉ plc S') ∧ (plc S').Nodup)) (fun Q' hQ' => ?_) ?_))
      · refine opI (lcI ⟨_, rfl, p9, rfl, ⟨_, SqL.of (e3 _ _ hp9)⟩, lcPL ys S' (fun q => (plc S').contains q.2) (fun q => nt q.2) (SqL.of (e3 _ _ hp9)) (Prs.mono e3 hpr) (by omega) (fun q1 c H4 hq e4 hc4 Z N hz hN => ?_) fun D4 H4 hD4 e4 h4 => ?_⟩)
        · refine ⟨c, _, rfl, hc4, rfl, _, _, rfl, _, _, rfl, rfl, rfl, _, rfl, _, rfl, D3, _, rfl, .inl (hPl3 _ e4), rfl, nts_flat _, _, rfl, ?_⟩
          show if inV (nt q1.2) ((plc S').map nt) = true then _ else _
          rw [inV_nt]
          exact tst (fun c => ⟨_, rfl, hz _ c (Same.refl _)⟩) fun c => hN _ c (Same.refl _)
        · have h4' : H4 D4 = some (.lst (((S'.filter fun q => (plc S').contains q.2).map (·.2)).map nt)) := by rw [h4, List.map_map]; rfl
          refine ⟨by decide, fun p5 hp5 => eqNilN _ (SqL.of (Same.new hp5 _ _ h4')) (SqL.of upd_same) ⟨_, rfl, tst (fun c1 => ?_) fun c1 => ?_⟩⟩
          · have e5 := e4.trans (Same.new (o := .lst []) hp5)
            have hsrc : ∀ q ∈ S', q.2 ∉ plc S' := fun q hq hm => by
              have h1 : (S'.filter fun q => (plc S').contains q.2) = [] := by
                cases h : S'.filter fun q => (plc S').contains q.2 with
                | nil => rfl
                | cons x r => rw [h] at c1; cases c1
              exact List.filter_eq_nil_iff.mp h1 q hq (List.contains_iff_mem.mpr hm)
            have hnn : (plc S').map nt = ((plc S').map fun n => ((n : Nat) : Int)).map V.int := (List.map_map (g := V.int) (f := fun n : Nat => (n : Int)) (l := plc S')).symm
            refine ⟨_, rfl, D3, (plc S').map fun n => ((n : Nat) : Int), rfl, by have := hPl3 _ e5; rwa [hnn] at this, by rw [List.length_map, List.length_map]; omega, fun m hm1 hm2 => ⟨_, rfl, D3, _, rfl, .inl (hPl3 _ e5), .inl ⟨rfl, ?_⟩⟩⟩
            refine hQ' _ _ ⟨_, rfl, e5, fun hbb => ⟨hsrc, ?_⟩⟩
            have h8 := of_decide_eq_true hbb
            have h9 : m = ((plc S').map fun n => ((n : Nat) : Int)).length := by
              injection h8 with h8
              simp only [List.length_map] at h8 ⊢
              omega
            have h10 := hm2.mp h9
            exact (List.pairwise_map.mp h10).imp fun h z => h (by rw [z])
          · exact hQ' _ _ ⟨false, rfl, e4.trans (Same.new hp5), fun z => by cases z⟩
      · rintro _ H4 ⟨bb, rfl, e4, hbb⟩
        have e14 := (e2.trans e3).trans e4
        dsimp only [gName, List.set_cons_succ, List.set_cons_zero]
        refine seq_cut (fun σ' H' => ∃ o8 o9 o10 o11 vb xs F', σ' = [some (.ref b), some (.ref t), some (.ref c), some (.ref p), some vl, some vb, none, none, o8, o9, o10, o11] ∧ o8 = some (.ref cS) ∧ Same H H' ∧ H' p = some (.lst xs) ∧ Paired (StT K H') xs F' ∧ GoodP T.ns T.old F' ∧ lastL T.old F' = ledS (lastL T.old F) S ∧ LyT K H' vl (lastL T.old F) ∧ StT K H' (.ref cS) S ∧ F'.length ≤ i + 1 ∧ ∃ F0 S1, F' = F0 ++ [S1] ∧ LyT K H' vb (lastL T.old F0)) (fun nx hnx => ?_) ?_
        · have helse : ∀ H5, Same H4 H5 → nx [some (.ref b), some (.ref t), some (.ref c), some (.ref p), some vl, some vl, none, none, some (.ref cS), some (.ref p9), some (.ref D3), some (.bl bb)] (upd H5 p (.lst (xs ++ [.ref cS]))) := fun H5 e5 => by
            have e15 := e14.trans e5
            have hy5 := e15 _ _ hy
            have hst : StT K (upd H5 p (.lst (xs ++ [.ref cS]))) (.ref cS) S := stT_mut hy5 ⟨cS, zS, rfl, same_t e15 hcS, Prs.mono e15 hzS⟩
            exact hnx _ _ ⟨_, _, _, _, _, _, F ++ [S], rfl, rfl, Same.mut (sm.trans e15) hp, upd_same, pd_snoc hst (sts_mut hy5 (sts_mono e15 hF)), (goodP_snoc _ _ _).mpr ⟨hgF, gS⟩, lastL_snoc _ _ _, lyT_mut hy5 (hvl.mono e15), hst, by rw [List.length_append]; show _ + 1 ≤ _; omega, F, S, rfl, lyT_mut hy5 (hvl.mono e15)⟩
          have happ : ∀ H5, Same H4 H5 → ∃ ls, SqL K H5 p ls := fun H5 e5 => ⟨_, SqL.of ((e14.trans e5) _ _ hy)⟩
          have hxl : xs.length < sizeLine := by rw [hF.length]; show _ < 16777216; omega
          refine ifI ⟨_, rfl, by decide, fun p5 hp5 => neNilPl (SqL.of (Same.new hp5 _ _ (e14 _ _ hy))) (sts_mono (e14.trans (Same.new hp5)) hF) (SqL.of upd_same) ⟨_, rfl, tst (fun c1 => ?_) fun c1 => ?_⟩⟩
          · have hFn : F ≠ [] := fun z => by rw [z] at c1; cases c1
            rcases hFc with z | ⟨F0, S1, rfl, hvb⟩
            · exact absurd z hFn
            have s5 := Same.new (o := .lst []) hp5
            obtain ⟨hperm, hasc⟩ := hjoin F0 S1 rfl
            refine ⟨_, rfl, bb, rfl, tst (fun c2 => ?_) fun c2 => ?_⟩
            · obtain ⟨hsrc, hnd⟩ := hbb c2
              refine ⟨_, rfl, ixT (same_t (sm.trans (e14.trans s5)) ht) rfl ⟨_, rfl, _, rfl, _, _, _, rfl, T.ns, lastL T.old F0, S', hns.mono (sm.trans (e14.trans s5)), hvb.mono (e14.trans s5), ⟨p9, ys, rfl, SqL.of (s5 _ _ (e4 _ _ (e3 _ _ hp9))), Prs.mono ((e3.trans e4).trans s5) hpr⟩, hn, by rw [lastL_len]; omega, by omega, fun H6 e6 => ⟨_, rfl, tst (fun c3 => ?_) fun c3 => ?_⟩⟩⟩
              · refine ⟨_, rfl, _, _, rfl, b, 4, rfl, rfl, hb.mono ((sm.trans (e14.trans s5)).trans e6), by decide, by decide, fun H7 r e7 hr => ⟨_, _, rfl, rfl, _, rfl, tst (fun c4 => ?_) fun c4 => ?_⟩⟩
                · have e57 := (s5.trans e6).trans e7
                  have e17 := e14.trans e57
                  have hg1 := (goodP_snoc _ _ _).mp hgF
                  have hnd2 : (plc (S1 ++ S)).Nodup := (hperm.map (·.1)).nodup_iff.mp hnd
                  obtain ⟨j1, j2⟩ := join_ok hg1.2 (by rw [← lastL_snoc]; exact gS) hperm hsrc hnd (hasc hnd2) (safe_ok c3)
                  refine ⟨_, rfl, p9, ys, rfl, .inl ⟨SqL.of (e57 _ _ (e4 _ _ (e3 _ _ hp9))), fun l hl2 => ?_⟩⟩
                  have s8 := Same.new (o := .tup ys) hl2
                  obtain ⟨xs0, x1, rfl, hF0, hx1⟩ := pd_last hF
                  have hy8 := s8 _ _ (e17 _ _ hy)
                  refine ⟨_, rfl, _, rfl, p, _, _, xs0.length, rfl, rfl, hy8, ?_, ?_⟩
                  · unfold ixN
                    rw [if_neg (by decide)]
                    simp
                    omega
                  · have hst : StT K (upd (upd H7 l (.tup ys)) p (.lst ((xs0 ++ [x1]).set xs0.length (.ref l)))) (.ref l) S' := stT_mut hy8 ⟨l, ys, rfl, SqT.of upd_same, Prs.mono (((e3.trans e4).trans e57).trans s8) hpr⟩
                    refine hnx _ _ ⟨_, _, _, _, vb, _, F0 ++ [S'], rfl, rfl, Same.mut (sm.trans (e17.trans s8)) hp, upd_same, ?_, (goodP_snoc _ _ _).mpr ⟨hg1.1, j1⟩, ?_, lyT_mut hy8 (hvl.mono (e17.trans s8)), stT_mut hy8 ⟨cS, zS, rfl, same_t (e17.trans s8) hcS, Prs.mono (e17.trans s8) hzS⟩, ?_, F0, S', rfl, lyT_mut hy8 (hvb.mono (e17.trans s8))⟩
                    · have : (xs0 ++ [x1]).set xs0.length (.ref l) = xs0 ++ [.ref l] := by rw [List.set_append_right _ _ (Nat.le_refl _), Nat.sub_self]; rfl
                      rw [this] at hst ⊢
                      exact pd_snoc hst (sts_mut hy8 (sts_mono (e17.trans s8) hF0))
                    · rw [lastL_snoc, lastL_snoc]; exact j2
                    · rw [List.length_append] at hFl ⊢; exact Nat.le_succ_of_le hFl
                · exact ⟨_, rfl, _, rfl, .inl ⟨rfl, happ _ ((s5.trans e6).trans e7)⟩, _, rfl, p, xs, _, rfl, rfl, (e14.trans ((s5.trans e6).trans e7)) _ _ hy, hxl, helse _ ((s5.trans e6).trans e7)⟩
              · exact ⟨_, rfl, _, rfl, .inl ⟨rfl, happ _ (s5.trans e6)⟩, _, rfl, p, xs, _, rfl, rfl, (e14.trans (s5.trans e6)) _ _ hy, hxl, helse _ (s5.trans e6)⟩
            · exact ⟨_, rfl, _, rfl, .inl ⟨rfl, happ _ s5⟩, _, rfl, p, xs, _, rfl, rfl, (e14.trans s5) _ _ hy, hxl, helse _ s5⟩
          · have s5 := Same.new (o := .lst []) hp5
            exact ⟨_, rfl, _, rfl, .inl ⟨rfl, happ _ s5⟩, _, rfl, p, xs, _, rfl, rfl, (e14.trans s5) _ _ hy, hxl, helse _ s5⟩
        · rintro σ' H5 ⟨o8', o9', o10', o11', vb', xs', F', rfl, rfl, sm5, hy5, hF5, hg5, hl5, hvl5, hst5, hlen5, F0', S1', hFe, hvb5⟩
          refine asI ⟨_, rfl, _, rfl, _, _, rfl, lastL T.old F, S, hvl5, hst5, by rw [lastL_len]; omega, by omega, gS.low, fun H6 v6 e6 hv6 => ?_⟩
          exact ⟨_, _, _, _, v6, vb', xs', F', rfl, sm5.trans e6, e6 _ _ hy5, sts_mono e6 hF5, hg5, by rw [hl5, hlast, et, lastL_snoc], by rw [hl5]; exact hv6, hlen5, .inr ⟨F0', S1', hFe, hvb5.mono e6⟩⟩
  · rintro σ H1 ⟨o8, o9, o10, o11, vl, vb, xs, F, rfl, sm, hy, hF, hgF, hlast, hvl, hFl, hFc⟩
    have e : P.take cs.length = P := by rw [hP.length, List.take_length]
    rw [e] at hlast
    dsimp only [List.set_cons_succ, List.set_cons_zero]
    exact rtI (cb1 ⟨_, rfl, p, xs, rfl, .inl ⟨SqL.of hy, fun l hl2 => q _ _ F (sm.trans (Same.new hl2)) ⟨l, xs, rfl, SqT.of upd_same, sts_mono (Same.new hl2) hF⟩ hgF hlast (by rw [hP.length] at hFl; exact hFl)⟩⟩)
end Wm
set_option Elab.async false
set_option linter.all false
set_option maxRecDepth 100000
set_option maxHeartbeats 4000000
/-! needs and layouts drawn -/
namespace Wm
open PySem PySem.Spec PyProof.Rows L2
theorem nts_of {k : Nat} {p : Nat → Prop} : ∀ {l : List Nat} {ys : List V}, Paired (fun _ y => ∃ n, y = nt n ∧ p n) l ys → ∃ ns : List Nat, ys = ns.map nt ∧ ns.length = l.length ∧ ∀ n ∈ ns, p n
  | _, _, .nil => ⟨[], rfl, rfl, fun n h => by cases h⟩
  | _, _, .cons ⟨n, e, hp⟩ t => by
    obtain ⟨ns, h1, h2, h3⟩ := nts_of (k := k) t
    refine ⟨n :: ns, by rw [e, h1]; rfl, by rw [List.length_cons, List.length_cons, h2], fun m hm => ?_⟩
    rcases List.mem_cons.mp hm with rfl | hm
    · exact hp
    · exact h3 m hm
theorem sc_law_needs : FnScope ["_law_bag_here", "_law_many", "_law_most", "_law_value"] ["_law_bag_here", "_law_many", "_law_most"] (defScope s_law_needs) := ⟨rfl, rfl, rfl, by decide +kernel, rfl, by decide +kernel, by decide +kernel⟩
theorem d_law_needs {P : Program} {w : World} {K : PySem.W.Frag} {mg : Str → Option Value} {base : Heap} (W : Wd K mg base) : DnG P w K mg base 3 "_law_needs" (sp3 (pNeeds K)) := by
  refine W.dnG (st := s_law_needs) (ps := ["_law_bag_here", "_law_many", "_law_most"]) 31 31 rfl rfl (fun _ _ _ _ _ _ us hl => match us, hl with | [_, _, _], _ => rfl) fun f fd F => ?_
  refine FnG.ofD F sc_law_needs (fun vs H Q E h => ?_) (fun cdv A outer s H vs Q E hg hr h => ?_)
  · obtain ⟨_, _, _, rfl, _⟩ := h; rfl
  obtain ⟨x, y, z, rfl, h⟩ := h
  refine ⟨_, PSs.nox (pss_one (ps_ret (pe_callTy call_tuple_of rfl (W.free 76) boot_tuple (pa_cons (pe_lc (own := [("_law_value", 3)]) rfl sc_law_needs.nd (pi_range1 rfl (W.free 72) (pa_cons (pv 1) pa_nil)) (blkOk_by (by kernel_rfl)) (fun _ _ _ _ _ => (pg_name (i := 3) sc_law_needs.nd rfl (Or.inl rfl))) (fun _ _ _ _ _ => pts_nil) (fun _ _ _ _ _ => (pe_op (op_addA (K := K)) pe_int (pe_fnG (d_law_take W) hg (hr.mono (by decide)) rfl (pa_cons (pv 0) (pa_cons (pe_fnG (d_law_some W) hg (hr.mono (by decide)) rfl (pa_cons (pv 0) (pa_cons (pe_lst (pa_cons pe_int (pa_cons pe_int (pa_cons (pv 2) (pa_cons pe_int pa_nil))))) pa_nil))) pa_nil)))))) pa_nil)))), ?_⟩
  rw [show L2.start ["_law_bag_here", "_law_many", "_law_most", "_law_value"] [x, y, z] = [some x, some y, some z, none] from rfl]
  obtain ⟨b, k, m, rfl, hb, rfl, rfl, hk, hm1, hm2, q⟩ := h
  refine rtI (cb1 (lcI ⟨_, rfl, _, rfl, by omega, by omega, ?_⟩))
  rw [Int.toNat_natCast]
  refine mpRl (walk_range (lo := 0) (n := k)) (fun _ y => ∃ n, y = nt n ∧ 1 ≤ n ∧ n ≤ 20) (fun _ _ => trivial) (by omega) (fun i x H1 H2 hi e1 hY Z hz => ?_) fun D H1 ys hD e1 h1 hp => ?_
  · obtain ⟨rfl, rfl⟩ := hY
    refine ⟨rfl, _, rfl, _, rfl, _, rfl, (by show 4 ≤ sizeLine; decide), fun p1 hp1 => ?_⟩
    have s1 := Same.new (o := .lst [V.int 1, .int 2, nt m, .int 1]) hp1
    refine ⟨_, _, rfl, b, p1, _, rfl, rfl, (hb.mono e1).mono s1, SqL.of upd_same, by simp, by show 4 ≤ 1000; decide, fun H3 v e3 hv => ?_⟩
    have hv' : ∃ k2 : Nat, v = nt k2 ∧ 1 ≤ k2 ∧ k2 ≤ 10 := by
      simp only [List.mem_cons, List.not_mem_nil, or_false] at hv
      rcases hv with h | h | h | h
      · exact ⟨1, h, by omega, by omega⟩
      · exact ⟨2, h, by omega, by omega⟩
      · exact ⟨m, h, hm1, hm2⟩
      · exact ⟨1, h, by omega, by omega⟩
    obtain ⟨k2, rfl, h2, h3⟩ := hv'
    refine ⟨_, _, rfl, b, k2, rfl, rfl, (hb.mono e1).mono (s1.trans e3), by omega, by omega, fun H4 r e4 hr => .inl ⟨_, _, rfl, rfl, hz _ _ (s1.trans (e3.trans e4)) ⟨1 + r, ?_, by omega, by omega⟩⟩⟩
    show V.int (1 + (r : Int)) = V.int ((1 + r : Nat) : Int)
    congr 1
  · obtain ⟨ns, rfl, hl, hb2⟩ := nts_of (k := 0) hp
    refine ⟨D, _, rfl, .inl ⟨SqL.of h1, fun l hl2 => q _ _ ns (e1.trans (Same.new hl2)) ⟨l, rfl, SqT.of upd_same⟩ ?_ hb2⟩⟩
    rw [hl, List.length_range]
theorem sc_law_fit_needs : FnScope ["_law_bag_here", "_law_size", "_law_most", "_law_needs_here"] ["_law_bag_here", "_law_size", "_law_most"] (defScope s_law_fit_needs) := ⟨rfl, rfl, rfl, by decide +kernel, rfl, by decide +kernel, by decide +kernel⟩
theorem d_law_fit_needs {P : Program} {w : World} {K : PySem.W.Frag} {mg : Str → Option Value} {base : Heap} (W : Wd K mg base) : DnG P w K mg base 4 "_law_fit_needs" (sp3 (pFit K)) := by
  refine W.dnG (st := s_law_fit_needs) (ps := ["_law_bag_here", "_law_size", "_law_most"]) 33 33 rfl rfl (fun _ _ _ _ _ _ us hl => match us, hl with | [_, _, _], _ => rfl) fun f fd F => ?_
  refine FnG.ofD F sc_law_fit_needs (fun vs H Q E h => ?_) (fun cdv A outer s H vs Q E hg hr h => ?_)
  · obtain ⟨_, _, _, rfl, _⟩ := h; rfl
  obtain ⟨x, y, z, rfl, h⟩ := h
  refine ⟨_, PSs.nox (pss_cons (ps_set (i := 3) sc_law_fit_needs.nd rfl (Or.inl rfl) (pe_fnG (d_law_needs W) hg (hr.mono (by decide)) rfl (pa_cons (pv 0) (pa_cons (pe_callB (call_max2 rfl) rfl (W.free 83) boot_max (pa_cons (pe_fnG (d_law_take W) hg (hr.mono (by decide)) rfl (pa_cons (pv 0) (pa_cons (pe_op (op_addA (K := K)) (pv 2) pe_int) pa_nil))) (pa_cons (pe_fnG (d_law_take W) hg (hr.mono (by decide)) rfl (pa_cons (pv 0) (pa_cons (pe_op (op_addA (K := K)) (pv 2) pe_int) pa_nil))) pa_nil))) (pa_cons (pe_fnG (d_law_some W) hg (hr.mono (by decide)) rfl (pa_cons (pv 0) (pa_cons (pe_lst (pa_cons pe_int (pa_cons pe_int (pa_cons pe_int (pa_cons pe_int pa_nil))))) pa_nil))) pa_nil)))))
      (pss_cons (ps_while PassesOwn.never (pt_cmpR op_gt (pe_callB (cr_sumT rfl) rfl (W.free 86) boot_sum (pa_cons (pv 3) pa_nil)) (pv 1) (nomark _)) (pss_one (ps_set (i := 3) sc_law_fit_needs.nd rfl (Or.inl rfl) (pe_slice (sl_any (K := K)) (pv 3) po_none (po_some (pe_un un_neg pe_int))))))
      (pss_one (ps_ret (pv 3))))), ?_⟩
  rw [show L2.start ["_law_bag_here", "_law_size", "_law_most", "_law_needs_here"] [x, y, z] = [some x, some y, some z, none] from rfl]
  obtain ⟨b, k, m, rfl, hb, rfl, rfl, hk, hm, q⟩ := h
  have plus : ∀ {H1 : Hp} {Q1 : VK}, Q1 (nt (m + 1)) H1 → rAdd K (nt m) (.int 1) H1 Q1 := fun {H1 Q1} h => .inl ⟨_, _, rfl, rfl, h⟩
  refine sqI (asI ⟨_, rfl, _, rfl, _, rfl, plus ⟨_, _, rfl, b, m + 1, rfl, rfl, hb, by omega, by omega, fun H1 r1 e1 hr1 => ⟨_, rfl, _, rfl, plus ⟨_, _, rfl, b, m + 1, rfl, rfl, hb.mono e1, by omega, by omega, fun H2 r2 e2 hr2 => ⟨_, _, rfl, ?_⟩⟩⟩⟩⟩)
  have e12 := e1.trans e2
  have hmax : ∃ r : Nat, r ≤ m ∧ (V.int (if (r2 : Int) > (r1 : Int) then (r2 : Int) else (r1 : Int))) = nt r := by
    by_cases h : (r2 : Int) > (r1 : Int)
    · exact ⟨r2, by omega, by rw [if_pos h]⟩
    · exact ⟨r1, by omega, by rw [if_neg h]⟩
  obtain ⟨r, hr, er⟩ := hmax
  rw [er]
  refine ⟨_, rfl, by decide, fun p3 hp3 => ?_⟩
  have s3 := Same.new (o := .lst [V.int 4, .int 2, .int 1, .int 2]) hp3
  refine ⟨_, _, rfl, b, p3, _, rfl, rfl, (hb.mono e12).mono s3, SqL.of upd_same, by simp, by show 4 ≤ 1000; decide, fun H4 v e4 hv => ?_⟩
  have hv' : ∃ k2 : Nat, v = nt k2 ∧ 1 ≤ k2 ∧ k2 ≤ 10 := by
    simp only [List.mem_cons, List.not_mem_nil, or_false] at hv
    rcases hv with h | h | h | h
    · exact ⟨4, h, by omega, by omega⟩
    · exact ⟨2, h, by omega, by omega⟩
    · exact ⟨1, h, by omega, by omega⟩
    · exact ⟨2, h, by omega, by omega⟩
  obtain ⟨k2, rfl, h2, h3⟩ := hv'
  refine ⟨_, _, _, rfl, b, r, k2, rfl, (hb.mono e12).mono (s3.trans e4), rfl, rfl, by omega, h2, h3, fun H5 v ns e5 hns hnl hnb => ?_⟩
  have e15 := e12.trans (s3.trans (e4.trans e5))
  dsimp only [gName, List.set_cons_succ, List.set_cons_zero]
  refine sqI ⟨fun j σ H' => ∃ v ns, σ = [some (.ref b), some (nt k), some (nt m), some v] ∧ Same H H' ∧ Nd K H' v ns ∧ ns.length = j ∧ j ≤ m ∧ ∀ n ∈ ns, 1 ≤ n ∧ n ≤ 20, ⟨_, v, ns, rfl, e15, hns, rfl, by omega, hnb⟩, ?_⟩
  rintro j σ H6 ⟨v6, ns6, rfl, e6, ⟨c6, rfl, hc6⟩, rfl, hj, hb6⟩
  have hsum : ns6.map nt = (ns6.map fun n : Nat => (n : Int)).map V.int := (List.map_map (g := V.int) (f := fun n : Nat => (n : Int)) (l := ns6)).symm
  refine ⟨_, rfl, c6, ns6.map fun n : Nat => (n : Int), rfl, by rw [← hsum]; exact hc6, ⟨_, rfl, _, _, rfl, rfl, _, rfl, tst (fun c1 => ?_) fun c1 => ?_⟩⟩
  · have hS : (ns6.map fun n : Nat => (n : Int)).sum = ((ns6.sum : Nat) : Int) := by
      clear hsum hc6 hj hb6 c1
      induction ns6 with
      | nil => rfl
      | cons a r ih => simp only [List.map_cons, List.sum_cons, ih]; omega
    have hne : ns6 ≠ [] := fun z => by
      have := of_decide_eq_true c1
      rw [hS, z] at this
      simp at this
      omega
    have hpos : 0 < ns6.length := List.length_pos_iff.mpr hne
    refine ⟨fun σ' H' => ∃ j', j' < ns6.length ∧ ∃ v ns, σ' = [some (.ref b), some (nt k), some (nt m), some v] ∧ Same H H' ∧ Nd K H' v ns ∧ ns.length = j' ∧ j' ≤ m ∧ ∀ n ∈ ns, 1 ≤ n ∧ n ≤ 20, fun _ _ h => h, ?_⟩
    refine asI ⟨_, rfl, _, rfl, ⟨_, rfl, slT hc6 fun H7 c7 e7 h7 => ?_⟩⟩
    have h7' : SqT K H7 c7 ((ns6.take (ns6.length - 1)).map nt) := by
      have := cut_last (ns6.map nt)
      rw [List.length_map, ← List.map_take] at this
      rw [← this]; exact h7
    exact ⟨ns6.length - 1, by omega, .ref c7, ns6.take (ns6.length - 1), rfl, e6.trans e7, ⟨c7, rfl, h7'⟩, by rw [List.length_take]; omega, by omega, fun n hn => hb6 n (List.mem_of_mem_take hn)⟩
  · have hS : (ns6.map fun n : Nat => (n : Int)).sum = ((ns6.sum : Nat) : Int) := by
      clear hsum hc6 hj hb6 c1
      induction ns6 with
      | nil => rfl
      | cons a r ih => simp only [List.map_cons, List.sum_cons, ih]; omega
    have h8 := of_decide_eq_false c1
    rw [hS] at h8
    exact ⟨_, rfl, q _ _ ns6 e6 ⟨c6, rfl, hc6⟩ hj (by omega) hb6⟩
end Wm
set_option Elab.async false
set_option linter.all false
set_option maxRecDepth 100000
set_option maxHeartbeats 4000000
/-! layouts spread, any task -/
namespace Wm
open PySem PySem.Spec PyProof.Rows L2
theorem sc_law_spread : FnScope ["_law_bag_here", "_law_needs_here", "_law_size", "_law_found", "_law_value", "_law_need", "_law_more"] ["_law_bag_here", "_law_needs_here", "_law_size"] (defScope s_law_spread) := ⟨rfl, rfl, rfl, by decide +kernel, rfl, by decide +kernel, by decide +kernel⟩
theorem d_law_spread {P : Program} {w : World} {K : PySem.W.Frag} {mg : Str → Option Value} {base : Heap} (W : Wd K mg base) : DnG P w K mg base 3 "_law_spread" (sp3 (pSpread K)) := by
  refine W.dnG (st := s_law_spread) (ps := ["_law_bag_here", "_law_needs_here", "_law_size"]) 32 32 rfl rfl (fun _ _ _ _ _ _ us hl => match us, hl with | [_, _, _], _ => rfl) fun f fd F => ?_
  refine FnG.ofD F sc_law_spread (fun vs H Q E h => ?_) (fun cdv A outer s H vs Q E hg hr h => ?_)
  · obtain ⟨_, _, _, rfl, _⟩ := h; rfl
  obtain ⟨x, y, z, rfl, h⟩ := h
  refine ⟨_, PSs.nox (pss_cons (ps_set (i := 3) sc_law_spread.nd rfl (Or.inl rfl) (pe_lst pa_nil))
      (pss_cons (ps_for PassesOwn.never rfl (pi_enumT rfl (W.free 78) (pa_cons (pv 1) pa_nil)) (pg_tupK (K := K) (n := 2) rfl (pgs_cons (pg_name (i := 4) sc_law_spread.nd rfl (Or.inl rfl)) (pgs_cons (pg_name (i := 5) sc_law_spread.nd rfl (Or.inl rfl)) pgs_nil))) (pss_one (ps_expr (pe_bmK (K := K) PySem.F.plainAttrs_list PySem.F.slot_list_extend PySem.F.type_list_extend mt_extend (pv 3) (pa_cons (pe_op op_rep (pe_lst (pa_cons (pv 4) pa_nil)) (pv 5)) pa_nil)))))
      (pss_cons (ps_set (i := 6) sc_law_spread.nd rfl (Or.inl rfl) (pe_fnG (d_law_some W) hg (hr.mono (by decide)) rfl (pa_cons (pv 0) (pa_cons (pe_lst (pa_cons (pe_lst (pa_cons pe_non pa_nil)) (pa_cons (pe_op (op_addA (K := K)) (pe_lst (pa_cons pe_non pa_nil)) (pe_listRg rfl rfl (W.free 80) (prg_1 rfl (W.free 72) (pe_callB (call_lenK (K := K)) rfl (W.free 71) PySem.boot_len (pa_cons (pv 1) pa_nil))))) (pa_cons (pe_op (op_addA (K := K)) (pe_listRg rfl rfl (W.free 80) (prg_1 rfl (W.free 72) (pe_callB (call_lenK (K := K)) rfl (W.free 71) PySem.boot_len (pa_cons (pv 1) pa_nil)))) (pe_lst (pa_cons pe_non pa_nil))) pa_nil)))) pa_nil))))
      (pss_cons (ps_while PassesOwn.never (pt_cmpR op_lt (pe_callB (call_lenK (K := K)) rfl (W.free 71) PySem.boot_len (pa_cons (pv 3) pa_nil)) (pv 2) (nomark _)) (pss_one (ps_expr (pe_bmK (K := K) PySem.F.plainAttrs_list PySem.F.slot_list_append PySem.F.type_list_append mt_append (pv 3) (pa_cons (pe_fnG (d_law_some W) hg (hr.mono (by decide)) rfl (pa_cons (pv 0) (pa_cons (pv 6) pa_nil))) pa_nil)))))
      (pss_one (ps_ret (pe_callTy (call_tupleF (K := K)) rfl (W.free 76) boot_tuple (pa_cons (pe_fnG (d_law_mixed W) hg (hr.mono (by decide)) rfl (pa_cons (pv 0) (pa_cons (pv 3) pa_nil))) pa_nil)))))))), ?_⟩
  rw [show L2.start ["_law_bag_here", "_law_needs_here", "_law_size", "_law_found", "_law_value", "_law_need", "_law_more"] [x, y, z] = [some x, some y, some z, none, none, none, none] from rfl]
  obtain ⟨b, ns, k, rfl, hb, ⟨c, rfl, hc⟩, rfl, hn, hsum, hk, hnb, q⟩ := h
  refine sqI (asI ⟨by decide, fun p hp => ?_⟩)
  have s0 := Same.new (o := .lst []) hp
  dsimp only [gName, List.set_cons_succ, List.set_cons_zero]
  refine sqI ⟨_, rfl, c, _, rfl, same_t s0 hc, ?_⟩
  refine for_it (walk_enumT (xs := ns.map nt)) (fun i σ H' => (∃ o4 o5 o6, σ = [some (.ref b), some (.ref c), some (nt k), some (.ref p), o4, o5, o6]) ∧ Same H H' ∧ ∃ F, H' p = some (.lst (F.map it)) ∧ Laid ns i F) ?_ ?_ ?_ ?_
  · exact ⟨⟨_, _, _, rfl⟩, s0, [], upd_same, Laid.zero ns⟩
  · exact fun i σ H' _ hP => same_t hP.2.1 hc
  · rintro i x σ H1 H2 hi ⟨⟨o4, o5, o6, rfl⟩, sm, F, hy, hF⟩ ⟨T, x1, x2, rfl, hT, rfl, h1, h2⟩
    dsimp only at h1 h2
    cases h1
    have hi' : i < ns.length := by simpa using hi
    have hni : ns[i]? = some ns[i] := List.getElem?_eq_getElem hi'
    rw [List.getElem?_map, hni] at h2
    cases h2
    have hnm := hnb _ (List.getElem_mem hi')
    have sT := Same.new (o := .tup [V.int (i : Nat), nt ns[i]]) hT
    have hFl : F.length ≤ ns.sum := by
      rw [hF.len]
      have h1 : (ns.take i).sum + (ns.drop i).sum = ns.sum := by rw [← List.sum_append, List.take_append_drop]
      omega
    refine ⟨T, _, rfl, SqT.of upd_same, rfl, _, _, rfl, _, _, rfl, rfl, ?_⟩
    refine ⟨_, rfl, .inl ⟨rfl, _, SqL.of (sT _ _ hy)⟩, _, rfl, (by show 1 ≤ sizeLine; decide), fun p3 hp3 => ⟨_, rfl, p3, _, _, rfl, rfl, upd_same, by omega, by omega, ?_, fun p4 hp4 => ?_⟩⟩
    · show 1 * ((ns[i] : Nat) : Int).toNat ≤ 16777216
      omega
    · have s3 := Same.new (o := .lst [V.int (i : Nat)]) hp3
      have s4 := Same.new (o := .lst (List.replicate ((ns[i] : Nat) : Int).toNat [V.int (i : Nat)]).flatten) hp4
      have e : (List.replicate ((ns[i] : Nat) : Int).toNat [V.int ((i : Nat) : Int)]).flatten = (List.replicate ns[i] (some i)).map it := by
        rw [Int.toNat_natCast, List.map_replicate]
        show _ = List.replicate ns[i] (V.int (i : Nat))
        generalize ns[i] = n
        induction n with
        | zero => rfl
        | succ n ih => rw [List.replicate_succ, List.flatten_cons, ih, List.replicate_succ]; rfl
      rw [e] at s4 ⊢
      refine ⟨p, p4, F.map it, (List.replicate ns[i] (some i)).map it, rfl, rfl, s4 _ _ (s3 _ _ (sT _ _ hy)), upd_same, by rw [List.length_map, List.length_map, List.length_replicate]; show _ ≤ 16777216; omega, ⟨_, _, _, rfl⟩, Same.mut (sm.trans (sT.trans (s3.trans s4))) hp, F ++ List.replicate ns[i] (some i), ?_, hF.step hni⟩
      rw [upd_same, List.map_append]
  · rintro σ H1 ⟨⟨o4, o5, o6, rfl⟩, sm, F, hy, hF⟩
    rw [List.length_map] at hF
    dsimp only [List.set_cons_succ, List.set_cons_zero]
    have hFl : F.length = ns.sum := by rw [hF.len, List.take_length]
    have hrg : RgOk 0 ((ns.length : Nat) : Int) := RgOk.of_le (by decide) (by omega) (by decide) (by omega)
    refine sqI (asI ⟨_, rfl, (by show 1 ≤ sizeLine; decide), fun p1 hp1 => ?_⟩)
    have s1 := Same.new (o := .lst [V.non]) hp1
    refine ⟨(by show 1 ≤ sizeLine; decide), fun p2 hp2 => ?_⟩
    have s2 := Same.new (o := .lst [V.non]) hp2
    have len1 : ∀ H', Same H H' → (∃ x, x = V.ref c ∧ SqT K H' c (ns.map nt)) := fun H' e => ⟨_, rfl, same_t e hc⟩
    refine ⟨_, rfl, c, _, rfl, .inr (same_t (sm.trans (s1.trans s2)) hc), _, rfl, by rw [List.length_map]; exact hrg, fun p3 hp3 => ?_⟩
    have e0 : rgV 0 (((ns.map nt).length : Nat) : Int) = (List.range ns.length).map nt := by rw [List.length_map, rgV_nt]
    have hRl : ((List.range ns.length).map nt).length = ns.length := by simp
    rw [e0]
    generalize hR : (List.range ns.length).map nt = R at hRl
    have hRm : ∀ x ∈ R, ∃ o, x = it o ∧ ∀ w, o = some w → w < ns.length := fun x hx => by
      rw [← hR] at hx
      obtain ⟨w, hw, rfl⟩ := List.mem_map.mp hx
      exact ⟨some w, rfl, fun w' e => by cases e; exact List.mem_range.mp hw⟩
    have s3 := Same.new (o := .lst R) hp3
    refine catL (s3 _ _ upd_same) upd_same (by rw [hRl]; show 1 + _ ≤ 16777216; omega) fun p4 hp4 => ?_
    have s4 := Same.new (o := .lst ([V.non] ++ R)) hp4
    have e14 := s1.trans (s2.trans (s3.trans s4))
    refine ⟨_, rfl, c, _, rfl, .inr (same_t (sm.trans e14) hc), _, rfl, by rw [List.length_map]; exact hrg, fun p5 hp5 => ?_⟩
    rw [e0, hR]
    have s5 := Same.new (o := .lst R) hp5
    refine ⟨(by show 1 ≤ sizeLine; decide), fun p6 hp6 => ?_⟩
    have s6 := Same.new (o := .lst [V.non]) hp6
    refine catL (s6 _ _ upd_same) upd_same (by rw [hRl]; show _ + 1 ≤ 16777216; omega) fun p7 hp7 => ?_
    have s7 := Same.new (o := .lst (R ++ [V.non])) hp7
    refine ⟨(by show 3 ≤ sizeLine; decide), fun p8 hp8 => ?_⟩
    have s8 := Same.new (o := .lst [V.ref p1, .ref p4, .ref p7]) hp8
    have t58 := s5.trans (s6.trans (s7.trans s8))
    have e18 := e14.trans t58
    refine ⟨_, _, rfl, b, p8, _, rfl, rfl, (hb.mono sm).mono e18, SqL.of upd_same, by simp, by show 3 ≤ 1000; decide, fun H9 v e9 hv => ?_⟩
    have hv' : ∃ l xs, v = .ref l ∧ l ≠ p ∧ H9 l = some (.lst xs) ∧ xs ≠ [] ∧ xs.length ≤ 1000 ∧ ∀ x ∈ xs, ∃ o, x = it o ∧ ∀ w, o = some w → w < ns.length := by
      simp only [List.mem_cons, List.not_mem_nil, or_false] at hv
      rcases hv with h | h | h
      · refine ⟨p1, [.non], h, Ne.symm (ne_of_none hy hp1), e9 _ _ ((s2.trans (s3.trans (s4.trans t58))) _ _ upd_same), by simp, by show 1 ≤ 1000; decide, fun x hx => ⟨none, List.mem_singleton.mp hx, fun w e => by cases e⟩⟩
      · refine ⟨p4, [.non] ++ R, h, Ne.symm (ne_of_none ((s1.trans (s2.trans s3)) _ _ hy) hp4), e9 _ _ (t58 _ _ upd_same), by simp, by rw [List.length_append, hRl]; show 1 + _ ≤ _; omega, fun x hx => ?_⟩
        rcases List.mem_append.mp hx with hx | hx
        · exact ⟨none, List.mem_singleton.mp hx, fun w e => by cases e⟩
        · exact hRm x hx
      · refine ⟨p7, R ++ [.non], h, Ne.symm (ne_of_none ((e14.trans (s5.trans s6)) _ _ hy) hp7), e9 _ _ (s8 _ _ upd_same), by simp, by rw [List.length_append, hRl]; show _ + 1 ≤ _; omega, fun x hx => ?_⟩
        rcases List.mem_append.mp hx with hx | hx
        · exact hRm x hx
        · exact ⟨none, List.mem_singleton.mp hx, fun w e => by cases e⟩
    obtain ⟨l, xs, rfl, lp, hl9, hxn, hxl, hxs⟩ := hv'
    have e19 := sm.trans (e18.trans e9)
    dsimp only [gName, List.set_cons_succ, List.set_cons_zero]
    refine sqI ⟨fun m σ H' => ∃ F, (∃ o4 o5, σ = [some (.ref b), some (.ref c), some (nt k), some (.ref p), o4, o5, some (.ref l)]) ∧ Same H H' ∧ H' l = some (.lst xs) ∧ H' p = some (.lst (F.map it)) ∧ Right ns F ∧ F.length + m = k, ⟨k - F.length, F, ⟨_, _, rfl⟩, e19, hl9, (e18.trans e9) _ _ hy, hF.right, by omega⟩, ?_⟩
    rintro m σ H5 ⟨F5, ⟨o4, o5, rfl⟩, e5, hl5, hy5, hr5, hm5⟩
    refine ⟨_, rfl, p, _, rfl, .inl (SqL.of hy5), _, rfl, _, _, rfl, rfl, _, rfl, ?_⟩
    rw [List.length_map]
    refine tst (fun c1 => ?_) fun c1 => ?_
    · have hlt : F5.length < k := by have := of_decide_eq_true c1; omega
      refine ⟨fun σ' H' => ∃ m', m' < m ∧ ∃ F, (∃ o4 o5, σ' = [some (.ref b), some (.ref c), some (nt k), some (.ref p), o4, o5, some (.ref l)]) ∧ Same H H' ∧ H' l = some (.lst xs) ∧ H' p = some (.lst (F.map it)) ∧ Right ns F ∧ F.length + m' = k, fun _ _ h => h, ?_⟩
      refine ⟨_, rfl, .inl ⟨rfl, _, SqL.of hy5⟩, _, rfl, _, rfl, _, _, rfl, b, l, xs, rfl, rfl, hb.mono e5, SqL.of hl5, hxn, hxl, fun H6 v e6 hv => ?_⟩
      obtain ⟨o, rfl, ho⟩ := hxs v hv
      refine ⟨p, _, _, rfl, rfl, e6 _ _ hy5, by rw [List.length_map]; show _ < 16777216; omega, m - 1, by omega, F5 ++ [o], ⟨_, _, rfl⟩, Same.mut (e5.trans e6) hp, by rw [upd_ne lp]; exact e6 _ _ hl5, by rw [upd_same, List.map_append]; rfl, right_app hr5 fun w hw => ho w (List.mem_singleton.mp hw).symm, by rw [List.length_append]; show _ + 1 + _ = _; omega⟩
    · have hge : F5.length = k := by have := of_decide_eq_false c1; omega
      dsimp only [List.set_cons_succ, List.set_cons_zero]
      refine rtI (cb1 ⟨_, rfl, _, rfl, _, _, rfl, b, p, F5.map it, rfl, rfl, hb.mono e5, SqL.of hy5, by rw [List.length_map]; omega, fun H6 p6' ys e6 hp6' h6 hperm => ⟨p6', ys, rfl, SqL.of h6, fun l2 ob hl2 hob => ?_⟩⟩)
      obtain ⟨F6, rfl, hF6⟩ : ∃ F6 : Lay, ys = F6.map it ∧ F6.Perm F5 := perm_map hperm
      exact q _ _ F6 ((e5.trans e6).trans (Same.new hl2)) ⟨l2, ob, rfl, upd_same, hob⟩ (right_perm hr5 hF6) (by rw [hF6.length_eq]; exact hge)
end Wm
set_option Elab.async false
set_option linter.all false
set_option maxRecDepth 100000
set_option maxHeartbeats 4000000
/-! any task, rings, even tasks -/
namespace Wm
open PySem PySem.Spec PyProof.Rows L2
theorem half1 (k : Nat) : V.int (Int.fdiv (k : Int) 2 + 1) = nt (k / 2 + 1) := by rw [fdiv2]; rfl
theorem nz2i : (2 : Int) ≠ 0 ∧ (2 : Int).natAbs < 1073741824 := by decide
theorem it_get {L : Lay} {i : Nat} (h : i < L.length) : (L.map it)[i]? = some (it (L.getD i none)) := by rw [List.getElem?_map, getD_get h]; rfl
theorem tk_new {K : PySem.W.Frag} {H : Hp} {p : Addr} {a b d : V} {T : Task} (hp : H p = none) (h1 : Nd K H a T.ns) (h2 : LyF K H b T.old) (h3 : LyF K H d T.wish) : TkT K (upd H p (.tup [a, b, d])) (.ref p) T :=
  ⟨p, a, b, d, rfl, SqT.of upd_same, h1.mono (Same.new hp), h2.mono (Same.new hp), h3.mono (Same.new hp)⟩
theorem sc_law_any_task : FnScope ["_law_bag_here", "_law_size", "_law_most", "_law_needs_here", "_law_old", "_law_wish", "_law_turn", "_law_at", "_law_kept"] ["_law_bag_here", "_law_size", "_law_most"] (defScope s_law_any_task) := ⟨rfl, rfl, rfl, by decide +kernel, rfl, by decide +kernel, by decide +kernel⟩
theorem d_law_any_task {P : Program} {w : World} {K : PySem.W.Frag} {mg : Str → Option Value} {base : Heap} (W : Wd K mg base) : DnG P w K mg base 5 "_law_any_task" (sp3 (pMk K)) := by
  refine W.dnG (st := s_law_any_task) (ps := ["_law_bag_here", "_law_size", "_law_most"]) 34 34 rfl rfl (fun _ _ _ _ _ _ us hl => match us, hl with | [_, _, _], _ => rfl) fun f fd F => ?_
  refine FnG.ofD F sc_law_any_task (fun vs H Q E h => ?_) (fun cdv A outer s H vs Q E hg hr h => ?_)
  · obtain ⟨_, _, _, rfl, _⟩ := h; rfl
  obtain ⟨x, y, z, rfl, h⟩ := h
  refine ⟨_, PSs.nox (pss_cons (ps_set (i := 3) sc_law_any_task.nd rfl (Or.inl rfl) (pe_fnG (d_law_fit_needs W) hg (hr.mono (by decide)) rfl (pa_cons (pv 0) (pa_cons (pv 1) (pa_cons (pv 2) pa_nil)))))
      (pss_cons (ps_par (i := 4) (j := 5) rfl sc_law_any_task.nd rfl rfl (by decide) rfl rfl (pa_cons (pe_fnG (d_law_spread W) hg (hr.mono (by decide)) rfl (pa_cons (pv 0) (pa_cons (pv 3) (pa_cons (pv 1) pa_nil)))) (pa_cons (pe_callTy call_list_of rfl (W.free 80) boot_list (pa_cons (pe_fnG (d_law_spread W) hg (hr.mono (by decide)) rfl (pa_cons (pv 0) (pa_cons (pv 3) (pa_cons (pv 1) pa_nil)))) pa_nil)) pa_nil)) (by rfl))
      (pss_cons (ps_for PassesOwn.never rfl (pi_range1 rfl (W.free 72) (pa_cons (pe_ifExp (pt_cmpR op_gt (pv 1) pe_int (nomark _)) (pe_fnG (d_law_take W) hg (hr.mono (by decide)) rfl (pa_cons (pv 0) (pa_cons (pe_op (op_addA (K := K)) (pe_op op_fdivN (pv 1) pe_int) pe_int) pa_nil))) pe_int) pa_nil)) (pg_name (i := 6) sc_law_any_task.nd rfl (Or.inl rfl)) (pss_cons (ps_set (i := 7) sc_law_any_task.nd rfl (Or.inl rfl) (pe_fnG (d_law_take W) hg (hr.mono (by decide)) rfl (pa_cons (pv 0) (pa_cons (pv 1) pa_nil))))
      (pss_cons (ps_set (i := 8) sc_law_any_task.nd rfl (Or.inl rfl) (pe_ix (ix_any (K := K)) (pv 5) (pv 7) (fun _ _ => rfl)))
      (pss_cons (ps_asg (pe_fnG (d_law_some W) hg (hr.mono (by decide)) rfl (pa_cons (pv 0) (pa_cons (pe_lst (pa_cons pe_non (pa_cons (pe_ix (ix_any (K := K)) (pv 4) (pv 7) (fun _ _ => rfl)) (pa_cons (pe_ix (ix_any (K := K)) (pv 4) (pv 7) (fun _ _ => rfl)) pa_nil)))) pa_nil))) (pg_sub (pv 5) (pv 7) set_list))
      (pss_one (ps_if (pt_not (pt_val (pe_fnG (d_law_is_right W) hg (hr.mono (by decide)) rfl (pa_cons (pv 3) (pa_cons (pv 5) pa_nil))))) (pss_one (ps_asg (pv 8) (pg_sub (pv 5) (pv 7) set_list))) pss_nil))))))
      (pss_one (ps_ret (pe_tup (pa_cons (pv 3) (pa_cons (pv 4) (pa_cons (pe_callTy (call_tupleF (K := K)) rfl (W.free 76) boot_tuple (pa_cons (pv 5) pa_nil)) pa_nil))))))))), ?_⟩
  rw [show L2.start ["_law_bag_here", "_law_size", "_law_most", "_law_needs_here", "_law_old", "_law_wish", "_law_turn", "_law_at", "_law_kept"] [x, y, z] = [some x, some y, some z, none, none, none, none, none, none] from rfl]
  obtain ⟨b, k, m, rfl, hb, rfl, rfl, hk, hm, q⟩ := h
  refine sqI (asI ⟨_, rfl, _, rfl, _, rfl, _, _, _, rfl, b, k, m, rfl, hb, rfl, rfl, by omega, by omega, fun H1 v1 ns e1 hns hnl hnsum hnb => ?_⟩)
  dsimp only [gName, List.set_cons_succ, List.set_cons_zero]
  refine sqI ⟨_, rfl, _, rfl, _, rfl, _, _, _, rfl, b, ns, k, rfl, hb.mono e1, hns, rfl, by omega, hnsum, by omega, hnb, fun H2 v2 L e2 hL hrL hLl => ?_⟩
  refine ⟨_, rfl, _, rfl, _, rfl, _, _, _, rfl, b, ns, k, rfl, (hb.mono e1).mono e2, hns.mono e2, rfl, by omega, hnsum, by omega, hnb, fun H3 v3 F e3 hF hrF hFl => ?_⟩
  obtain ⟨c3, rfl, hF3⟩ := hF.t
  refine ⟨c3, _, rfl, .inr hF3, fun w hw => ⟨_, _, rfl, ?_⟩⟩
  have s3 := Same.new (o := .lst (F.map it)) hw
  have e13 := (e1.trans e2).trans e3
  have hwn : H w = none := ne_none_of e13 hw
  have e0 := e13.trans s3
  obtain ⟨cL, oL, rfl, hcL, hoL⟩ := hL
  have hcL3 : (upd H3 w (.lst (F.map it))) cL = some (.frz oL (.tup (L.map it))) := (e3.trans s3) _ _ hcL
  have frzT : ∀ {H' : Hp}, H' cL = some (.frz oL (.tup (L.map it))) → SqT K H' cL (L.map it) := fun h => .inl (.inr ⟨oL, h⟩)
  have hns3 := hns.mono ((e2.trans e3).trans s3)
  dsimp only [List.set_cons_succ, List.set_cons_zero]
  generalize hH4 : upd H3 w (.lst (F.map it)) = H4 at *
  have hw4 : H4 w = some (.lst (F.map it)) := by rw [← hH4]; exact upd_same
  refine sqI (frI (ifE_cut (fun v H' => ∃ m' : Nat, v = nt m' ∧ m' ≤ k ∧ (0 < m' → 0 < k) ∧ Same H4 H') (fun Q' hQ' => ?_) ?_))
  · refine ⟨_, rfl, _, _, rfl, rfl, _, rfl, tst (fun c => ?_) fun c => hQ' _ _ ⟨0, rfl, Nat.zero_le _, fun z => by omega, Same.refl _⟩⟩
    have hk0 : 0 < k := by have := of_decide_eq_true c; omega
    exact ⟨_, rfl, _, rfl, _, _, rfl, rfl, nz2i, .inl ⟨_, _, rfl, rfl, _, _, rfl, b, k / 2 + 1, rfl, half1 k, hb.mono e0, by omega, by omega, fun H5 r e5 hr => hQ' _ _ ⟨r, rfl, by omega, fun _ => hk0, e5⟩⟩⟩
  rintro _ H5 ⟨m', rfl, hm', hk0, e5⟩
  refine frN (by omega) (forRng (fun i σ H' => ∃ F, (∃ o6 o7 o8, σ = [some (.ref b), some (nt k), some (nt m), some v1, some (.ref cL), some (.ref w), o6, o7, o8]) ∧ Same H H' ∧ H' cL = some (.frz oL (.tup (L.map it))) ∧ Nd K H' v1 ns ∧ H' w = some (.lst (F.map it)) ∧ Right ns F ∧ F.length = k) ?_ ?_ ?_)
  · exact ⟨F, ⟨_, _, _, rfl⟩, e0.trans e5, e5 _ _ hcL3, hns3.mono e5, e5 _ _ hw4, hrF, hFl⟩
  · rintro i σ H6 hi ⟨F6, ⟨o6, o7, o8, rfl⟩, e6, hc6, hn6, hw6, hr6, hl6⟩
    have hkp := hk0 (by omega)
    refine sqI (asI ⟨_, rfl, _, rfl, _, _, rfl, b, k, rfl, rfl, hb.mono e6, hkp, by omega, fun H7 r e7 hr => ?_⟩)
    dsimp only [gName, List.set_cons_succ, List.set_cons_zero]
    refine sqI (asI ⟨_, rfl, _, rfl, ixL (SqL.of (e7 _ _ hw6)) (atI_nat (it_get (by omega))) ?_⟩)
    dsimp only [gName, List.set_cons_succ, List.set_cons_zero]
    refine sqI (asI ⟨_, rfl, _, rfl, _, rfl, ixT (frzT (e7 _ _ hc6)) (atI_nat (it_get (by omega))) ⟨_, rfl, _, rfl, ixT (frzT (e7 _ _ hc6)) (atI_nat (it_get (by omega))) ⟨(by show 3 ≤ sizeLine; decide), fun p8 hp8 => ?_⟩⟩⟩)
    have s8 := Same.new (o := .lst [.non, it (L.getD r none), it (L.getD r none)]) hp8
    refine ⟨_, _, rfl, b, p8, _, rfl, rfl, (hb.mono e6).mono (e7.trans s8), SqL.of upd_same, by simp, by show 3 ≤ 1000; decide, fun H9 v9 e9 hv9 => ?_⟩
    have hv : ∃ o, v9 = it o := by
      simp only [List.mem_cons, List.not_mem_nil, or_false] at hv9
      rcases hv9 with h | h | h
      · exact ⟨none, h⟩
      · exact ⟨_, h⟩
      · exact ⟨_, h⟩
    obtain ⟨o, rfl⟩ := hv
    have e79 := e7.trans (s8.trans e9)
    have hw9 := e79 _ _ hw6
    refine ⟨_, rfl, _, rfl, w, _, _, r, rfl, rfl, hw9, ix_nt (by rw [List.length_map]; omega), ?_⟩
    rw [← List.map_set]
    have k10 : Same H (upd H9 w (.lst ((F6.set r o).map it))) := Same.mut (e6.trans e79) hwn
    have c10 : upd H9 w (.lst ((F6.set r o).map it)) cL = some (.frz oL (.tup (L.map it))) := by rw [upd_ne (ne_of (e79 _ _ hc6) hw9 (by intro z; cases z))]; exact e79 _ _ hc6
    have n10 : Nd K (upd H9 w (.lst ((F6.set r o).map it))) v1 ns := let ⟨c, h1, h2⟩ := hn6; ⟨c, h1, sqT_mut hw9 (same_t e79 h2)⟩
    have w10 : upd H9 w (.lst ((F6.set r o).map it)) w = some (.lst ((F6.set r o).map it)) := upd_same
    generalize upd H9 w (.lst ((F6.set r o).map it)) = H10 at k10 c10 n10 w10 ⊢
    dsimp only [List.set_cons_succ, List.set_cons_zero]
    refine ifI ⟨_, rfl, _, rfl, _, _, rfl, ns, F6.set r o, n10, ⟨w, rfl, SqL.of w10⟩, by omega, by rw [List.length_set]; omega, fun H11 e11 => ⟨_, rfl, tst (fun c => ?_) fun c => ?_⟩⟩
    · have w11 := e11 _ _ w10
      refine ⟨_, rfl, _, rfl, _, rfl, w, _, _, r, rfl, rfl, w11, ix_nt (by rw [List.length_map, List.length_set]; omega), F6, ⟨_, _, _, rfl⟩, Same.mut (k10.trans e11) hwn, by rw [upd_ne (ne_of (e11 _ _ c10) w11 (by intro z; cases z))]; exact e11 _ _ c10, let ⟨c, h1, h2⟩ := n10; ⟨c, h1, sqT_mut w11 (same_t e11 h2)⟩, ?_, hr6, hl6⟩
      rw [upd_same, ← List.map_set, List.set_set]
      have : F6.set r (F6.getD r none) = F6 := by
        refine List.ext_getElem? fun i => ?_
        by_cases h : r = i
        · subst h
          rw [List.getElem?_set_self (by omega), getD_get (by omega)]
        · rw [List.getElem?_set_ne h]
      rw [this]
    · have hr := right_ok (by simpa using c)
      exact ⟨F6.set r o, ⟨_, _, _, rfl⟩, k10.trans e11, e11 _ _ c10, n10.mono e11, e11 _ _ w10, hr, by rw [List.length_set]; exact hl6⟩
  · rintro σ H6 ⟨F6, ⟨o6, o7, o8, rfl⟩, e6, hc6, hn6, hw6, hr6, hl6⟩
    dsimp only [List.set_cons_succ, List.set_cons_zero]
    refine rtI ⟨_, rfl, _, rfl, _, rfl, w, _, rfl, SqL.of hw6, fun l ob hl hob => ⟨(by show 3 ≤ sizeLine; decide), fun p hp => ?_⟩⟩
    have s7 := Same.new (o := .frz ob (.tup (F6.map it))) hl
    refine q _ _ ⟨ns, L, F6⟩ (e6.trans (s7.trans (Same.new hp))) (tk_new hp (hn6.mono s7) ⟨cL, oL, rfl, s7 _ _ hc6, hoL⟩ ⟨l, ob, rfl, upd_same, hob⟩) ⟨fun n hn => (hnb n hn).1, hrL, hr6, by rw [hLl, hl6]⟩ (by show L.length ≤ _; omega) (by show ns.length ≤ _; omega)
end Wm
set_option Elab.async false
set_option linter.all false
set_option maxRecDepth 100000
set_option maxHeartbeats 4000000
/-! rings -/
namespace Wm
open PySem PySem.Spec PyProof.Rows L2
theorem sc_law_rings : FnScope ["_law_bag_here", "_law_places", "_law_old", "_law_wish", "_law_left", "_law_ring", "_law_at", "_law_place"] ["_law_bag_here", "_law_places", "_law_old", "_law_wish"] (defScope s_law_rings) := ⟨rfl, rfl, rfl, by decide +kernel, rfl, by decide +kernel, by decide +kernel⟩
theorem d_law_rings {P : Program} {w : World} {K : PySem.W.Frag} {mg : Str → Option Value} {base : Heap} (W : Wd K mg base) : DnG P w K mg base 3 "_law_rings" (sp4 (pRings K)) := by
  refine W.dnG (st := s_law_rings) (ps := ["_law_bag_here", "_law_places", "_law_old", "_law_wish"]) 35 35 rfl rfl (fun _ _ _ _ _ _ us hl => match us, hl with | [_, _, _, _], _ => rfl) fun f fd F => ?_
  refine FnG.ofD F sc_law_rings (fun vs H Q E h => ?_) (fun cdv A outer s H vs Q E hg hr h => ?_)
  · obtain ⟨_, _, _, _, rfl, _⟩ := h; rfl
  obtain ⟨x, y, z, u, rfl, h⟩ := h
  refine ⟨_, PSs.nox (pss_cons (ps_set (i := 4) sc_law_rings.nd rfl (Or.inl rfl) (pe_fnG (d_law_mixed W) hg (hr.mono (by decide)) rfl (pa_cons (pv 0) (pa_cons (pv 1) pa_nil))))
      (pss_cons (ps_while PassesOwn.never (pt_cmpR op_gt (pe_callB (call_lenK (K := K)) rfl (W.free 71) PySem.boot_len (pa_cons (pv 4) pa_nil)) pe_int (nomark _)) (pss_cons (ps_set (i := 5) sc_law_rings.nd rfl (Or.inl rfl) (pe_slice (sl_any (K := K)) (pv 4) po_none (po_some (pe_fnG (d_law_some W) hg (hr.mono (by decide)) rfl (pa_cons (pv 0) (pa_cons (pe_lst (pa_cons pe_int (pa_cons pe_int (pa_cons pe_int (pa_cons pe_int (pa_cons (pe_callB (call_lenK (K := K)) rfl (W.free 71) PySem.boot_len (pa_cons (pv 4) pa_nil)) pa_nil)))))) pa_nil))))))
      (pss_cons (ps_set (i := 4) sc_law_rings.nd rfl (Or.inl rfl) (pe_slice (sl_any (K := K)) (pv 4) (po_some (pe_callB (call_lenK (K := K)) rfl (W.free 71) PySem.boot_len (pa_cons (pv 5) pa_nil))) po_none))
      (pss_one (ps_for PassesOwn.never rfl (pi_enum rfl (W.free 78) (pa_cons (pv 5) pa_nil)) (pg_tupK (K := K) (n := 2) rfl (pgs_cons (pg_name (i := 6) sc_law_rings.nd rfl (Or.inl rfl)) (pgs_cons (pg_name (i := 7) sc_law_rings.nd rfl (Or.inl rfl)) pgs_nil))) (pss_one (ps_asg (pe_ix (ix_any (K := K)) (pv 2) (pe_ix (ix_any (K := K)) (pv 5) (pe_op op_sub (pv 6) pe_int) (fun _ _ => rfl)) (fun _ _ => rfl)) (pg_sub (pv 3) (pv 7) set_list))))))))
      (pss_one (ps_ret (pv 3))))), ?_⟩
  rw [show L2.start ["_law_bag_here", "_law_places", "_law_old", "_law_wish", "_law_left", "_law_ring", "_law_at", "_law_place"] [x, y, z, u] = [some x, some y, some z, some u, none, none, none, none] from rfl]
  obtain ⟨H0, b, a, o, w, ps, old, rfl, rfl, rfl, rfl, e0, hw0, hb, ha, ho, hw, hnd, hlow, hl, q⟩ := h
  have hpl : ps.length ≤ old.length := nodup_len hnd hlow
  refine sqI (asI ⟨_, rfl, _, rfl, _, _, rfl, b, a, ps.map nt, rfl, rfl, hb.mono e0, e0.seq ha, by rw [List.length_map]; omega, fun H1 lf ys e1 hlf h1 hperm => ?_⟩)
  obtain ⟨ls, rfl, hls⟩ := perm_nts hperm
  have hlw : lf ≠ w := fun z => by rw [z, hw] at hlf; cases hlf
  dsimp only [gName, List.set_cons_succ, List.set_cons_zero]
  refine sqI ⟨fun m σ H' => ∃ (ls : List Nat) (lf : Addr) (wish : Lay), (∃ o5 o6 o7, σ = [some (.ref b), some (.ref a), some (.ref o), some (.ref w), some (.ref lf), o5, o6, o7]) ∧ Same H0 H' ∧ H' lf = some (.lst (ls.map nt)) ∧ lf ≠ w ∧ H' w = some (.lst (wish.map it)) ∧ ls.Nodup ∧ (∀ i ∈ ls, i ∈ ps) ∧ (∀ i ∈ ls, wish[i]? = old[i]?) ∧ RingOk ps old wish ∧ m = ls.length, ⟨_, ls, lf, old, ⟨_, _, _, rfl⟩, e0.trans e1, h1, hlw, e1 _ _ hw, hls.nodup_iff.mpr hnd, fun i hi => hls.mem_iff.mp hi, fun _ _ => rfl, ⟨rfl, fun _ => rfl, fun _ _ => rfl⟩, rfl⟩, ?_⟩
  rintro m σ H2 ⟨ls2, lf2, w2, ⟨o5, o6, o7, rfl⟩, e2, hl2, hlw2, hw2, hnd2, hsub2, hsame2, hring2, rfl⟩
  refine ⟨_, rfl, lf2, _, rfl, .inl (SqL.of hl2), _, _, rfl, rfl, _, rfl, tst (fun c1 => ?_) fun c1 => ?_⟩
  · have hlen : 1 < ls2.length := by have := of_decide_eq_true c1; rw [List.length_map] at this; omega
    have hlen2 : ls2.length ≤ 100 := by have := nodup_len hnd2 (fun i hi => hlow i (hsub2 i hi)); omega
    refine ⟨fun σ' H' => ∃ m', m' < ls2.length ∧ ∃ (ls : List Nat) (lf : Addr) (wish : Lay), (∃ o5 o6 o7, σ' = [some (.ref b), some (.ref a), some (.ref o), some (.ref w), some (.ref lf), o5, o6, o7]) ∧ Same H0 H' ∧ H' lf = some (.lst (ls.map nt)) ∧ lf ≠ w ∧ H' w = some (.lst (wish.map it)) ∧ ls.Nodup ∧ (∀ i ∈ ls, i ∈ ps) ∧ (∀ i ∈ ls, wish[i]? = old[i]?) ∧ RingOk ps old wish ∧ m' = ls.length, fun _ _ h => h, ?_⟩
    refine sqI (asI ⟨_, rfl, _, rfl, _, rfl, lf2, _, rfl, .inl (SqL.of hl2), (by show 5 ≤ sizeLine; decide), fun p3 hp3 => ?_⟩)
    have s3 := Same.new (o := .lst [V.int 2, .int 2, .int 3, .int 4, .int ((ls2.map nt).length : Nat)]) hp3
    refine ⟨_, _, rfl, b, p3, _, rfl, rfl, hb.mono (e2.trans s3), SqL.of upd_same, by simp, by show 5 ≤ 1000; decide, fun H4 v e4 hv => ?_⟩
    have hv' : ∃ s : Nat, v = nt s ∧ 1 ≤ s := by
      simp only [List.mem_cons, List.not_mem_nil, or_false] at hv
      rcases hv with h | h | h | h | h
      · exact ⟨2, h, by omega⟩
      · exact ⟨2, h, by omega⟩
      · exact ⟨3, h, by omega⟩
      · exact ⟨4, h, by omega⟩
      · exact ⟨_, h, by rw [List.length_map]; omega⟩
    obtain ⟨s, rfl, hs⟩ := hv'
    have e34 := s3.trans e4
    refine ⟨_, rfl, .inl ⟨lf2, _, rfl, SqL.of (e34 _ _ hl2), fun p5 hp5 => ?_⟩⟩
    rw [cut_take, ← List.map_take]
    have s5 := Same.new (o := .lst ((ls2.take s).map nt)) hp5
    have h5w : p5 ≠ w := fun z => by rw [z, e34 _ _ hw2] at hp5; cases hp5
    have e35 := e34.trans s5
    have hR5 : upd H4 p5 (.lst ((ls2.take s).map nt)) p5 = some (.lst ((ls2.take s).map nt)) := upd_same
    have hl5 := e35 _ _ hl2
    have hw5 := e35 _ _ hw2
    have hE5 := e2.trans e35
    generalize upd H4 p5 (.lst ((ls2.take s).map nt)) = H5 at hR5 hl5 hw5 hE5 ⊢
    generalize hRd : ls2.take s = R at hR5 ⊢
    have hRl : R.length = min s ls2.length := by rw [← hRd, List.length_take]
    dsimp only [gName, List.set_cons_succ, List.set_cons_zero]
    refine sqI (asI ⟨_, rfl, _, rfl, p5, _, rfl, .inl (SqL.of hR5), _, rfl, .inl ⟨lf2, _, rfl, SqL.of hl5, fun p6 hp6 => ?_⟩⟩)
    rw [List.length_map, cut_drop, ← List.map_drop]
    have s6 := Same.new (o := .lst ((ls2.drop R.length).map nt)) hp6
    have h6w : p6 ≠ w := fun z => by rw [z, hw5] at hp6; cases hp6
    have hd6 : upd H5 p6 (.lst ((ls2.drop R.length).map nt)) p6 = some (.lst ((ls2.drop R.length).map nt)) := upd_same
    have hR6 := s6 _ _ hR5
    have hw6 := s6 _ _ hw5
    have hE6 := hE5.trans s6
    generalize upd H5 p6 (.lst ((ls2.drop R.length).map nt)) = H6 at hd6 hR6 hw6 hE6 ⊢
    have hRnd : R.Nodup := by rw [← hRd]; exact hnd2.sublist (List.take_sublist _ _)
    have hRin : ∀ i ∈ R, i ∈ ls2 := fun i hi => by rw [← hRd] at hi; exact List.mem_of_mem_take hi
    have hlw2' : w2.length = old.length := hring2.len
    dsimp only [gName, List.set_cons_succ, List.set_cons_zero]
    refine ⟨_, rfl, p5, _, rfl, SqL.of hR6, ?_⟩
    refine for_it (walk_enum (xs := R.map nt)) (fun j σ H' => ∃ wish : Lay, (∃ o6 o7, σ = [some (.ref b), some (.ref a), some (.ref o), some (.ref w), some (.ref p6), some (.ref p5), o6, o7]) ∧ Same H0 H' ∧ H' p6 = some (.lst ((ls2.drop R.length).map nt)) ∧ H' p5 = some (.lst (R.map nt)) ∧ H' w = some (.lst (wish.map it)) ∧ Rg old w2 wish R j) ?_ ?_ ?_ ?_
    · exact ⟨w2, ⟨_, _, rfl⟩, hE6, hd6, hR6, hw6, Rg.zero old w2 R⟩
    · rintro j σ H' _ ⟨_, _, _, _, h, _⟩
      exact SqL.of h
    · rintro j x σ H7 H8 hj ⟨w7, ⟨o6', o7', rfl⟩, e7, hd7, hR7, hw7, hg7⟩ ⟨Tt, x1, x2, rfl, hTt, rfl, h1, h2⟩
      dsimp only at h1 h2
      cases h1
      have hj' : j < R.length := by simpa using hj
      have hrj : R[j]? = some R[j] := List.getElem?_eq_getElem hj'
      rw [List.getElem?_map, hrj] at h2
      cases h2
      have sT := Same.new (o := .tup [V.int (j : Nat), nt R[j]]) hTt
      have hprev : (if j = 0 then R.getD (R.length - 1) 0 else R.getD (j - 1) 0) ∈ R := by
        have hg : ∀ i, i < R.length → R.getD i 0 ∈ R := fun i hi => by rw [List.getD_eq_getElem?_getD, List.getElem?_eq_getElem hi]; exact List.getElem_mem hi
        split
        · exact hg _ (by omega)
        · exact hg _ (by omega)
      refine ⟨Tt, _, rfl, SqT.of upd_same, rfl, _, _, rfl, _, _, rfl, rfl, ?_⟩
      refine ⟨_, rfl, _, rfl, _, rfl, _, _, rfl, rfl, ixL (SqL.of (sT _ _ hR7)) (at_prev hj') (ixL ((e7.trans sT).seq ho) (atI_nat (it_get (hlow _ (hsub2 _ (hRin _ hprev))))) ⟨_, rfl, _, rfl, w, _, _, R[j], rfl, rfl, sT _ _ hw7, ix_nt ?_, ?_⟩)⟩
      · rw [List.length_map, hg7.len, hlw2']
        exact hlow _ (hsub2 _ (hRin _ (List.getElem_mem hj')))
      · rw [← List.map_set]
        refine ⟨_, ⟨_, _, rfl⟩, Same.mut (e7.trans sT) hw0, ?_, ?_, upd_same, hg7.step hRnd hrj ?_ (fun i hi => hsame2 i (hRin i hi)) rfl⟩
        · rw [upd_ne h6w]; exact sT _ _ hd7
        · rw [upd_ne h5w]; exact sT _ _ hR7
        · rw [hlw2']; exact hlow _ (hsub2 _ (hRin _ (List.getElem_mem hj')))
    · rintro σ H7 ⟨w7, ⟨o6', o7', rfl⟩, e7, hd7, hR7, hw7, hg7⟩
      rw [List.length_map] at hg7
      have hsplit : ls2 = R ++ ls2.drop R.length := by
        have h1 : R = ls2.take R.length := by rw [hRl, ← hRd]; exact List.take_eq_take_iff.mpr (by omega)
        conv => lhs; rw [← List.take_append_drop R.length ls2]
        rw [← h1]
      have hdis : ∀ i ∈ ls2.drop R.length, i ∉ R := by
        have := hnd2
        rw [hsplit, List.nodup_append] at this
        exact fun i h1 h2 => this.2.2 i h2 i h1 rfl
      have hout : ∀ i, i ∉ R → w7[i]? = w2[i]? := fun i hi => hg7.out i (fun z => hi (List.mem_of_mem_take z))
      refine ⟨(ls2.drop R.length).length, by rw [List.length_drop]; omega, ls2.drop R.length, p6, w7, ⟨_, _, _, rfl⟩, e7, hd7, h6w, hw7, hnd2.sublist (List.drop_sublist _ _), fun i hi => hsub2 i (List.mem_of_mem_drop hi), fun i hi => by rw [hout i (hdis i hi)]; exact hsame2 i (List.mem_of_mem_drop hi), ⟨by rw [hg7.len]; exact hlw2', fun v => by rw [hg7.done v]; exact hring2.cnt v, fun i hi => ?_⟩, rfl⟩
      rw [hout i (fun z => hi (hsub2 i (hRin i z)))]
      exact hring2.out i hi
  · exact ⟨_, rfl, q _ w2 e2 hw2 hring2⟩
end Wm
set_option Elab.async false
set_option linter.all false
set_option maxRecDepth 100000
set_option maxHeartbeats 4000000
/-! even tasks -/
namespace Wm
open PySem PySem.Spec PyProof.Rows L2
theorem sc_law_even_task : FnScope ["_law_bag_here", "_law_size", "_law_most", "_law_needs_here", "_law_held", "_law_old", "_law_spare", "_law_order", "_law_at", "_law_item", "_law_places", "_law_gone", "_law_wish"] ["_law_bag_here", "_law_size", "_law_most"] (defScope s_law_even_task) := ⟨rfl, rfl, rfl, by decide +kernel, rfl, by decide +kernel, by decide +kernel⟩
theorem d_law_even_task {P : Program} {w : World} {K : PySem.W.Frag} {mg : Str → Option Value} {base : Heap} (W : Wd K mg base) : DnG P w K mg base 5 "_law_even_task" (sp3 (pMkS K)) := by
  refine W.dnG (st := s_law_even_task) (ps := ["_law_bag_here", "_law_size", "_law_most"]) 36 36 rfl rfl (fun _ _ _ _ _ _ us hl => match us, hl with | [_, _, _], _ => rfl) fun f fd F => ?_
  refine FnG.ofD F sc_law_even_task (fun vs H Q E h => ?_) (fun cdv A outer s H vs Q E hg hr h => ?_)
  · obtain ⟨_, _, _, rfl, _⟩ := h; rfl
  obtain ⟨x, y, z, rfl, h⟩ := h
  refine ⟨_, PSs.nox (pss_cons (ps_set (i := 3) sc_law_even_task.nd rfl (Or.inl rfl) (pe_fnG (d_law_fit_needs W) hg (hr.mono (by decide)) rfl (pa_cons (pv 0) (pa_cons (pe_callB (call_max2 rfl) rfl (W.free 83) boot_max (pa_cons pe_int (pa_cons (pe_op op_sub (pv 1) (pe_fnG (d_law_take W) hg (hr.mono (by decide)) rfl (pa_cons (pv 0) (pa_cons pe_int pa_nil)))) pa_nil))) (pa_cons (pv 2) pa_nil)))))
      (pss_cons (ps_set (i := 4) sc_law_even_task.nd rfl (Or.inl rfl) (pe_callB (cr_sumT rfl) rfl (W.free 86) boot_sum (pa_cons (pv 3) pa_nil)))
      (pss_cons (ps_set (i := 5) sc_law_even_task.nd rfl (Or.inr rfl) (pe_fnG (d_law_spread W) hg (hr.mono (by decide)) rfl (pa_cons (pv 0) (pa_cons (pv 3) (pa_cons (pv 4) pa_nil)))))
      (pss_cons (ps_set (i := 6) sc_law_even_task.nd rfl (Or.inl rfl) (pe_ifExp (pt_cmpR op_lt (pv 4) (pv 1) (nomark _)) (pe_fnG (d_law_some W) hg (hr.mono (by decide)) rfl (pa_cons (pv 0) (pa_cons (pe_lst (pa_cons pe_int (pa_cons pe_int (pa_cons pe_int (pa_cons pe_int (pa_cons pe_int pa_nil)))))) pa_nil))) pe_int))
      (pss_cons (ps_set (i := 6) sc_law_even_task.nd rfl (Or.inl rfl) (pe_callB (call_min2 rfl) rfl (W.free 82) boot_min (pa_cons (pv 6) (pa_cons (pe_op op_sub (pv 1) (pv 4)) pa_nil))))
      (pss_cons (ps_set (i := 5) sc_law_even_task.nd rfl (Or.inr rfl) (pe_op (op_addA (K := K)) (pe_callTy call_list_of rfl (W.free 80) boot_list (pa_cons (pv 5) pa_nil)) (pe_op op_rep (pe_lst (pa_cons pe_non pa_nil)) (pv 6))))
      (pss_cons (ps_set (i := 7) sc_law_even_task.nd rfl (Or.inl rfl) (pe_fnG (d_law_mixed W) hg (hr.mono (by decide)) rfl (pa_cons (pv 0) (pa_cons (pe_listRg rfl rfl (W.free 80) (prg_1 rfl (W.free 72) (pe_callB (call_lenK (K := K)) rfl (W.free 71) PySem.boot_len (pa_cons (pv 5) pa_nil)))) pa_nil))))
      (pss_cons (ps_set (i := 5) sc_law_even_task.nd rfl (Or.inr rfl) (pe_lc (own := [("_law_at", 8)]) rfl sc_law_even_task.nd (pi_listK (K := K) (pv 7)) (blkOk_by (by kernel_rfl)) (fun _ _ _ _ _ => (pg_name (i := 8) sc_law_even_task.nd rfl (Or.inl rfl))) (fun _ _ _ _ _ => pts_nil) (fun _ _ _ _ _ => (pe_ix (ix_any (K := K)) (pv 5) (pv 8) (fun _ _ => rfl)))))
      (pss_cons (ps_setLc (i := 10) (own := [("_law_at", 8), ("_law_item", 9)]) rfl sc_law_even_task.nd rfl rfl (sw_true rfl rfl rfl (by decide +kernel)) (pi_enum rfl (W.free 78) (pa_cons (pv 5) pa_nil)) (blkOk_by (by kernel_rfl)) (fun _ _ _ _ _ => (pg_tupK (K := K) (n := 2) rfl (pgs_cons (pg_name (i := 8) sc_law_even_task.nd rfl (Or.inl rfl)) (pgs_cons (pg_name (i := 9) sc_law_even_task.nd rfl (Or.inl rfl)) pgs_nil)))) (fun _ _ _ _ _ => (pts_one (pt_cmpR op_notN (pv 9) pe_non (nomark _)))) (fun _ _ _ _ _ => (pv 8)))
      (pss_cons (ps_set (i := 11) sc_law_even_task.nd rfl (Or.inl rfl) (pe_fnG (d_law_some W) hg (hr.mono (by decide)) rfl (pa_cons (pv 0) (pa_cons (pe_lst (pa_cons pe_int (pa_cons pe_int (pa_cons pe_int (pa_cons pe_int (pa_cons (pe_callB (call_lenK (K := K)) rfl (W.free 71) PySem.boot_len (pa_cons (pv 10) pa_nil)) pa_nil)))))) pa_nil))))
      (pss_cons (ps_set (i := 12) sc_law_even_task.nd rfl (Or.inl rfl) (pe_fnG (d_law_rings W) hg (hr.mono (by decide)) rfl (pa_cons (pv 0) (pa_cons (pe_slice (sl_any (K := K)) (pe_fnG (d_law_mixed W) hg (hr.mono (by decide)) rfl (pa_cons (pv 0) (pa_cons (pv 10) pa_nil))) (po_some (pv 11)) po_none) (pa_cons (pv 5) (pa_cons (pe_callTy call_list_of rfl (W.free 80) boot_list (pa_cons (pv 5) pa_nil)) pa_nil))))))
      (pss_one (ps_ret (pe_tup (pa_cons (pv 3) (pa_cons (pe_callTy (call_tupleF (K := K)) rfl (W.free 76) boot_tuple (pa_cons (pv 5) pa_nil)) (pa_cons (pe_callTy (call_tupleF (K := K)) rfl (W.free 76) boot_tuple (pa_cons (pv 12) pa_nil)) pa_nil))))))))))))))))), ?_⟩
  rw [show L2.start ["_law_bag_here", "_law_size", "_law_most", "_law_needs_here", "_law_held", "_law_old", "_law_spare", "_law_order", "_law_at", "_law_item", "_law_places", "_law_gone", "_law_wish"] [x, y, z] = [some x, some y, some z, none, none, none, none, none, none, none, none, none, none] from rfl]
  obtain ⟨b, k, m, rfl, hb, rfl, rfl, hk, hm, q⟩ := h
  refine sqI (asI ⟨_, rfl, _, rfl, _, rfl, _, _, rfl, b, 4, rfl, rfl, hb, by decide, by decide, fun H1 r1 e1 hr1 => ⟨_, _, rfl, rfl, ?_⟩⟩)
  have hmx : ∃ s : Nat, 1 ≤ s ∧ s ≤ k + 1 ∧ V.int (if (k : Int) - (r1 : Int) > 1 then (k : Int) - (r1 : Int) else 1) = nt s := by
    by_cases h : (k : Int) - (r1 : Int) > 1
    · refine ⟨k - r1, by omega, by omega, ?_⟩
      rw [if_pos h]
      show V.int _ = V.int _
      congr 1
      omega
    · exact ⟨1, by omega, by omega, by rw [if_neg h]; rfl⟩
  obtain ⟨s, hs1, hs2, es⟩ := hmx
  refine ⟨_, _, rfl, ?_⟩
  rw [es]
  refine ⟨_, rfl, _, _, _, rfl, b, s, m, rfl, hb.mono e1, rfl, rfl, by omega, by omega, fun H2 v2 ns e2 hns hnl hsum hnb => ?_⟩
  have hns2 := hns
  obtain ⟨cn2, rfl, hcn⟩ := hns
  have hS : (ns.map fun n : Nat => (n : Int)).sum = ((ns.sum : Nat) : Int) := by
    clear hsum hcn hns2 hnl hnb
    induction ns with
    | nil => rfl
    | cons a r ih => simp only [List.map_cons, List.sum_cons, ih]; omega
  have hnn : ns.map nt = (ns.map fun n : Nat => (n : Int)).map V.int := (List.map_map (g := V.int) (f := fun n : Nat => (n : Int)) (l := ns)).symm
  dsimp only [gName, List.set_cons_succ, List.set_cons_zero]
  refine sqI (asI ⟨_, rfl, cn2, ns.map fun n : Nat => (n : Int), rfl, by rw [← hnn]; exact hcn, ?_⟩)
  rw [hS]
  dsimp only [gName, List.set_cons_succ, List.set_cons_zero]
  have e12 := e1.trans e2
  refine sqI (asI ⟨_, rfl, _, rfl, _, rfl, _, _, _, rfl, b, ns, ns.sum, rfl, hb.mono e12, hns2, rfl, by omega, Nat.le_refl _, by omega, hnb, fun H3 v3 L e3 hL hrL hLl => ?_⟩)
  obtain ⟨cL, rfl, hcL⟩ := hL.t
  have e13 := e12.trans e3
  dsimp only [gName, List.set_cons_succ, List.set_cons_zero]
  refine sqI (asI (ifE_cut (fun v H' => ∃ d : Nat, v = nt d ∧ d ≤ 3 ∧ Same H3 H') (fun Q' hQ' => ?_) ?_))
  · refine ⟨_, rfl, _, rfl, _, _, rfl, rfl, _, rfl, tst (fun c => ?_) fun c => hQ' _ _ ⟨0, rfl, by omega, Same.refl _⟩⟩
    refine ⟨_, rfl, (by show 5 ≤ sizeLine; decide), fun p4 hp4 => ?_⟩
    have s4 := Same.new (o := .lst [V.int 0, .int 1, .int 1, .int 2, .int 3]) hp4
    refine ⟨_, _, rfl, b, p4, _, rfl, rfl, (hb.mono e13).mono s4, SqL.of upd_same, by simp, by decide, fun H5 v e5 hv => ?_⟩
    simp only [List.mem_cons, List.not_mem_nil, or_false] at hv
    rcases hv with h | h | h | h | h
    · exact hQ' _ _ ⟨0, h, by omega, s4.trans e5⟩
    · exact hQ' _ _ ⟨1, h, by omega, s4.trans e5⟩
    · exact hQ' _ _ ⟨1, h, by omega, s4.trans e5⟩
    · exact hQ' _ _ ⟨2, h, by omega, s4.trans e5⟩
    · exact hQ' _ _ ⟨3, h, by omega, s4.trans e5⟩
  rintro _ H4 ⟨d, rfl, hd, e4⟩
  dsimp only [gName, List.set_cons_succ, List.set_cons_zero]
  refine sqI (asI ⟨_, rfl, _, rfl, _, rfl, _, _, rfl, rfl, _, _, rfl, ?_⟩)
  have hsp : ∃ (z : Int) (n : Nat), (if (k : Int) - (ns.sum : Nat) < (d : Int) then (k : Int) - (ns.sum : Nat) else (d : Int)) = z ∧ z.toNat = n ∧ -1000 ≤ z ∧ z ≤ 3 ∧ ns.sum + n ≤ k + 1 := by
    refine ⟨_, _, rfl, rfl, ?_, ?_, ?_⟩ <;> split <;> omega
  obtain ⟨z, n, hz, hzn, hz1, hz2, hz3⟩ := hsp
  rw [hz]
  have e14 := e13.trans e4
  dsimp only [gName, List.set_cons_succ, List.set_cons_zero]
  refine sqI (asI ⟨_, rfl, cL, _, rfl, .inr (same_t e4 hcL), fun p5 hp5 => ⟨(by show 1 ≤ sizeLine; decide), fun p6 hp6 => ⟨_, rfl, p6, z, _, rfl, rfl, upd_same, by omega, by omega, by rw [hzn]; show 1 * n ≤ 16777216; omega, fun p7 hp7 => ?_⟩⟩⟩)
  have s5 := Same.new (o := .lst (L.map it)) hp5
  have s6 := Same.new (o := .lst [V.non]) hp6
  rw [hzn]
  have erep : (List.replicate n [V.non]).flatten = (List.replicate n none).map it := reps n none
  rw [erep]
  have s7 := Same.new (o := .lst ((List.replicate n none).map it)) hp7
  refine catL (s7 _ _ (s6 _ _ upd_same)) upd_same (by rw [List.length_map, List.length_map, List.length_replicate]; show _ ≤ 16777216; omega) fun p8 hp8 => ?_
  rw [← List.map_append]
  have s8 := Same.new (o := .lst ((L ++ List.replicate n none).map it)) hp8
  have e58 := s5.trans (s6.trans (s7.trans s8))
  have hO8 : upd (upd (upd (upd H4 p5 (.lst (L.map it))) p6 (.lst [V.non])) p7 (.lst ((List.replicate n none).map it))) p8 (.lst ((L ++ List.replicate n none).map it)) p8 = some (.lst ((L ++ List.replicate n none).map it)) := upd_same
  have hE8 := e14.trans e58
  have hc8 : SqT K _ cn2 (ns.map nt) := same_t (e3.trans (e4.trans e58)) hcn
  generalize upd (upd (upd (upd H4 p5 (.lst (L.map it))) p6 (.lst [V.non])) p7 (.lst ((List.replicate n none).map it))) p8 (.lst ((L ++ List.replicate n none).map it)) = H8 at hO8 hE8 hc8 ⊢
  have hrA : Right ns (L ++ List.replicate n none) := right_app hrL fun v hv => by have := (List.mem_replicate.mp hv).2; cases this
  have hAl : (L ++ List.replicate n none).length ≤ k + 1 := by rw [List.length_append, List.length_replicate]; omega
  generalize L ++ List.replicate n none = A at hO8 hrA hAl ⊢
  dsimp only [gName, List.set_cons_succ, List.set_cons_zero]
  refine sqI (asI ⟨_, rfl, _, rfl, p8, _, rfl, .inl (SqL.of hO8), _, rfl, ?_⟩)
  refine ⟨RgOk.of_le (by decide) (by rw [List.length_map]; omega) (by decide) (by omega), fun p9 hp9 => ?_⟩
  rw [List.length_map, rgV_nt]
  have s9 := Same.new (o := .lst ((List.range A.length).map nt)) hp9
  refine ⟨_, _, rfl, b, p9, _, rfl, rfl, (hb.mono hE8).mono s9, SqL.of upd_same, by rw [List.length_map, List.length_range]; omega, fun H10 po ys e10 hpo h10 hperm => ?_⟩
  obtain ⟨od, rfl, hod⟩ := perm_nts hperm
  have e810 := s9.trans e10
  have hol : od.length = A.length := by rw [hod.length_eq, List.length_range]
  dsimp only [gName, List.set_cons_succ, List.set_cons_zero]
  refine sqI (asI (lcI ⟨_, rfl, po, rfl, ⟨_, SqL.of h10⟩, mpL od nt (fun i => it (A.getD i none)) (SqL.of h10) (by omega) (fun i H11 hi e11 Z hz' => ?_) fun D11 H11 hD11 e11 h11 => ?_⟩))
  · have hi2 : i < A.length := by have := hod.mem_iff.mp hi; exact List.mem_range.mp this
    exact ⟨rfl, _, rfl, _, rfl, ixL (SqL.of ((e810.trans e11) _ _ hO8)) (atI_nat (it_get hi2)) (hz' _ (Same.refl _))⟩
  have e1 : od.map (fun i => it (A.getD i none)) = (od.map fun i => A.getD i none).map it := by rw [List.map_map]; rfl
  rw [e1] at h11
  have hOp : (od.map fun i => A.getD i none).Perm A := order_perm hod
  have hrO := right_perm hrA hOp
  have hOl : (od.map fun i => A.getD i none).length = A.length := hOp.length_eq
  generalize od.map (fun i => A.getD i none) = O at h11 hOp hrO hOl
  have e811 := e810.trans e11
  dsimp only [gName, List.set_cons_succ, List.set_cons_zero]
  refine sqI (asI (lcI ⟨_, rfl, D11, _, rfl, SqL.of h11, lcEL O it (fun _ o => !decide (it o = .non)) (fun i _ => nt i) (SqL.of h11) (by omega) (fun i x T' H12 hx e12' hT Z N hz' hN => ?_) fun D12 H12 hD12 e12' h12 => ?_⟩))
  · exact ⟨T', _, rfl, SqT.of upd_same, rfl, _, _, rfl, _, _, rfl, rfl, rfl, _, rfl, rfl, _, rfl, tst (fun c => ⟨_, rfl, hz' _ c (Same.new hT)⟩) fun c => hN _ c (Same.new hT)⟩
  rw [pos_nt] at h12
  have hPm : ∀ i, i ∈ pos (fun _ o => !decide (it o = .non)) O → i < O.length ∧ O[i]? ≠ some none := fun i hi => by
    obtain ⟨a, h1, h2⟩ := mem_pos.mp hi
    refine ⟨(List.getElem?_eq_some_iff.mp h1).1, fun z => ?_⟩
    rw [h1] at z
    cases z
    cases h2
  have hPn := pos_nodup (fun _ o => !decide (it o = .non)) O
  have hPl := nodup_len hPn fun i hi => (hPm i hi).1
  generalize pos (fun _ o => !decide (it o = .non)) O = P at h12 hPm hPn hPl
  have e812 := e811.trans e12'
  dsimp only [gName, List.set_cons_succ, List.set_cons_zero]
  refine sqI (asI ⟨_, rfl, _, rfl, D12, _, rfl, .inl (SqL.of h12), (by show 5 ≤ sizeLine; decide), fun p13 hp13 => ?_⟩)
  have s13 := Same.new (o := .lst [V.int 0, .int 0, .int 1, .int 2, .int ((P.map nt).length : Nat)]) hp13
  refine ⟨_, _, rfl, b, p13, _, rfl, rfl, ((hb.mono hE8).mono e812).mono s13, SqL.of upd_same, by simp, by show 5 ≤ 1000; decide, fun H14 v e14' hv => ?_⟩
  have hg : ∃ g : Nat, v = nt g := by
    simp only [List.mem_cons, List.not_mem_nil, or_false] at hv
    rcases hv with h | h | h | h | h
    · exact ⟨0, h⟩
    · exact ⟨0, h⟩
    · exact ⟨1, h⟩
    · exact ⟨2, h⟩
    · exact ⟨_, h⟩
  obtain ⟨g, rfl⟩ := hg
  have e1214 := s13.trans e14'
  have hE14 := hE8.trans (e812.trans e1214)
  dsimp only [gName, List.set_cons_succ, List.set_cons_zero]
  refine sqI (asI ⟨_, rfl, _, rfl, _, rfl, _, _, rfl, b, D12, P.map nt, rfl, rfl, hb.mono hE14, SqL.of (e1214 _ _ h12), by rw [List.length_map]; omega, fun H15 p15 ys e15 hp15 h15 hperm2 => ?_⟩)
  obtain ⟨P2, rfl, hP2⟩ := perm_nts hperm2
  refine ⟨_, rfl, _, rfl, .inl ⟨p15, _, rfl, SqL.of h15, fun p16 hp16 => ?_⟩⟩
  rw [cut_drop, ← List.map_drop]
  have s16 := Same.new (o := .lst ((P2.drop g).map nt)) hp16
  have hO16 := s16 _ _ (e15 _ _ (e1214 _ _ (e12' _ _ h11)))
  refine ⟨_, rfl, _, rfl, D11, _, rfl, .inl (SqL.of hO16), fun p17 hp17 => ?_⟩
  have s17 := Same.new (o := .lst (O.map it)) hp17
  have hE16 := hE14.trans (e15.trans s16)
  have hsub : ∀ i ∈ P2.drop g, i ∈ P := fun i hi => hP2.mem_iff.mp (List.mem_of_mem_drop hi)
  refine ⟨_, _, _, _, rfl, _, b, p16, D11, p17, P2.drop g, O, rfl, rfl, rfl, rfl, s17, hp17, hb.mono hE16, SqL.of upd_same, SqL.of hO16, upd_same, (hP2.nodup_iff.mpr hPn).sublist (List.drop_sublist _ _), fun i hi => (hPm i (hsub i hi)).1, by omega, fun H18 wish e18 h18 hring => ?_⟩
  have hO18 := e18 _ _ hO16
  have hc18 : SqT K H18 cn2 (ns.map nt) := same_t (e812.trans (e1214.trans (e15.trans (s16.trans e18)))) hc8
  have hE18 := hE16.trans e18
  dsimp only [gName, List.set_cons_succ, List.set_cons_zero]
  refine rtI ⟨_, rfl, _, rfl, D11, _, rfl, SqL.of hO18, fun p19 o19 hp19 ho19 => ?_⟩
  have s19 := Same.new (o := .frz o19 (.tup (O.map it))) hp19
  refine ⟨_, rfl, p17, _, rfl, SqL.of (s19 _ _ h18), fun p20 o20 hp20 ho20 => ⟨(by show 3 ≤ sizeLine; decide), fun p21 hp21 => ?_⟩⟩
  have s20 := Same.new (o := .frz o20 (.tup (wish.map it))) hp20
  refine q _ _ ⟨ns, O, wish⟩ (hE18.trans (s19.trans (s20.trans (Same.new hp21)))) (tk_new hp21 ⟨cn2, rfl, same_t (s19.trans s20) hc18⟩ ⟨p19, o19, rfl, s20 _ _ upd_same, ho19⟩ ⟨p20, o20, rfl, upd_same, ho20⟩) ⟨fun n hn => (hnb n hn).1, hrO, right_cnt hrO hring.cnt, hring.len.symm⟩ (by show O.length ≤ _; omega) hnl fun i hi => ?_
  show wish[i]? = some none
  rw [hring.out i fun z => (hPm i (hsub i z)).2 hi]
  exact hi
end Wm
set_option Elab.async false
set_option linter.all false
set_option maxRecDepth 100000
set_option maxHeartbeats 4000000
/-! parted tasks -/
namespace Wm
open PySem PySem.Spec PyProof.Rows L2
theorem some4 {K : PySem.W.Frag} {H : Hp} {Q : VK} {b p : Addr} {xs : List V} (hb : Bag H b) (h : H p = some (.lst xs)) (hne : xs ≠ []) (hl : xs.length ≤ 1000) (q : ∀ H' v, Same H H' → v ∈ xs → Q v H') : sp2 (pSome K) [.ref b, .ref p] H Q E0 :=
  ⟨_, _, rfl, b, p, xs, rfl, rfl, hb, SqL.of h, hne, hl, q⟩
theorem sc_law_parted_task : FnScope ["_law_bag_here", "_law_size", "_law_most", "_law_needs_here", "_law_old", "_law_wish", "_law_is_more", "_law_need", "_law_many", "_law_first", "_law_at", "_law_spare", "_law_order"] ["_law_bag_here", "_law_size", "_law_most"] (defScope s_law_parted_task) := ⟨rfl, rfl, rfl, by decide +kernel, rfl, by decide +kernel, by decide +kernel⟩
theorem d_law_parted_task {P : Program} {w : World} {K : PySem.W.Frag} {mg : Str → Option Value} {base : Heap} (W : Wd K mg base) : DnG P w K mg base 3 "_law_parted_task" (sp3 (pMkS K)) := by
  refine W.dnG (st := s_law_parted_task) (ps := ["_law_bag_here", "_law_size", "_law_most"]) 37 37 rfl rfl (fun _ _ _ _ _ _ us hl => match us, hl with | [_, _, _], _ => rfl) fun f fd F => ?_
  refine FnG.ofD F sc_law_parted_task (fun vs H Q E h => ?_) (fun cdv A outer s H vs Q E hg hr h => ?_)
  · obtain ⟨_, _, _, rfl, _⟩ := h; rfl
  obtain ⟨x, y, z, rfl, h⟩ := h
  refine ⟨_, PSs.nox (pss_cons (ps_asg (pe_tup (pa_cons (pe_lst pa_nil) (pa_cons (pe_lst pa_nil) (pa_cons (pe_lst pa_nil) (pa_cons pe_bl pa_nil))))) (pg_tupK (K := K) (n := 4) rfl (pgs_cons (pg_name (i := 3) sc_law_parted_task.nd rfl (Or.inl rfl)) (pgs_cons (pg_name (i := 4) sc_law_parted_task.nd rfl (Or.inr rfl)) (pgs_cons (pg_name (i := 5) sc_law_parted_task.nd rfl (Or.inr rfl)) (pgs_cons (pg_name (i := 6) sc_law_parted_task.nd rfl (Or.inl rfl)) pgs_nil))))))
      (pss_cons (ps_while PassesOwn.never (pt_val (pv 6)) (pss_cons (ps_par (i := 7) (j := 8) rfl sc_law_parted_task.nd rfl rfl (by decide) rfl rfl (pa_cons (pe_fnG (d_law_some W) hg (hr.mono (by decide)) rfl (pa_cons (pv 0) (pa_cons (pe_lst (pa_cons pe_int (pa_cons pe_int (pa_cons pe_int (pa_cons pe_int pa_nil))))) pa_nil))) (pa_cons (pe_fnG (d_law_some W) hg (hr.mono (by decide)) rfl (pa_cons (pv 0) (pa_cons (pe_lst (pa_cons pe_int (pa_cons pe_int (pa_cons pe_int (pa_cons pe_int pa_nil))))) pa_nil))) pa_nil)) (by rfl))
      (pss_cons (ps_set (i := 6) sc_law_parted_task.nd rfl (Or.inl rfl) (pe_and (pe_cmpR op_le (pe_op (op_addA (K := K)) (pe_callB (call_lenK (K := K)) rfl (W.free 71) PySem.boot_len (pa_cons (pv 4) pa_nil)) (pe_op op_mul (pv 7) (pv 8))) (pv 1) (nomark _)) (pe_one (pe_cmpR op_le (pe_op (op_addA (K := K)) (pe_callB (call_lenK (K := K)) rfl (W.free 71) PySem.boot_len (pa_cons (pv 3) pa_nil)) (pv 8)) (pv 2) (nomark _)))))
      (pss_one (ps_if (pt_val (pv 6)) (pss_cons (ps_set (i := 9) sc_law_parted_task.nd rfl (Or.inl rfl) (pe_callB (call_lenK (K := K)) rfl (W.free 71) PySem.boot_len (pa_cons (pv 3) pa_nil)))
      (pss_cons (ps_expr (pe_bmK (K := K) PySem.F.plainAttrs_list PySem.F.slot_list_extend PySem.F.type_list_extend mt_extend (pv 3) (pa_cons (pe_op op_rep (pe_lst (pa_cons (pv 7) pa_nil)) (pv 8)) pa_nil)))
      (pss_cons (ps_for PassesOwn.never rfl (pi_range1 rfl (W.free 72) (pa_cons (pv 8) pa_nil)) (pg_name (i := 10) sc_law_parted_task.nd rfl (Or.inl rfl)) (pss_cons (ps_expr (pe_bmK (K := K) PySem.F.plainAttrs_list PySem.F.slot_list_extend PySem.F.type_list_extend mt_extend (pv 4) (pa_cons (pe_op op_rep (pe_lst (pa_cons (pe_op (op_addA (K := K)) (pv 9) (pv 10)) pa_nil)) (pv 7)) pa_nil)))
      (pss_one (ps_expr (pe_bmK (K := K) PySem.F.plainAttrs_list PySem.F.slot_list_extend PySem.F.type_list_extend mt_extend (pv 5) (pa_cons (pe_op op_rep (pe_lst (pa_cons (pe_op (op_addA (K := K)) (pv 9) (pe_op op_modN (pe_callTy call_int1 rfl (W.free 74) boot_int (pa_cons (pe_op (op_addA (K := K)) (pv 10) pe_int) pa_nil)) (pv 8))) pa_nil)) (pv 7)) pa_nil))))))
      (pss_one (ps_set (i := 6) sc_law_parted_task.nd rfl (Or.inl rfl) (pe_cmpR op_gt (pe_fnG (d_law_take W) hg (hr.mono (by decide)) rfl (pa_cons (pv 0) (pa_cons pe_int pa_nil))) pe_int (nomark _))))))) pss_nil)))))
      (pss_cons (ps_set (i := 11) sc_law_parted_task.nd rfl (Or.inl rfl) (pe_callB (call_min2 rfl) rfl (W.free 82) boot_min (pa_cons (pe_fnG (d_law_some W) hg (hr.mono (by decide)) rfl (pa_cons (pv 0) (pa_cons (pe_lst (pa_cons pe_int (pa_cons pe_int (pa_cons pe_int (pa_cons pe_int (pa_cons pe_int (pa_cons pe_int (pa_cons pe_int pa_nil)))))))) pa_nil))) (pa_cons (pe_op op_sub (pv 1) (pe_callB (call_lenK (K := K)) rfl (W.free 71) PySem.boot_len (pa_cons (pv 4) pa_nil))) pa_nil))))
      (pss_cons (ps_asg (pe_tup (pa_cons (pe_op (op_addA (K := K)) (pv 4) (pe_op op_rep (pe_lst (pa_cons pe_non pa_nil)) (pv 11))) (pa_cons (pe_op (op_addA (K := K)) (pv 5) (pe_op op_rep (pe_lst (pa_cons pe_non pa_nil)) (pv 11))) pa_nil))) (pg_tupK (K := K) (n := 2) rfl (pgs_cons (pg_name (i := 4) sc_law_parted_task.nd rfl (Or.inr rfl)) (pgs_cons (pg_name (i := 5) sc_law_parted_task.nd rfl (Or.inr rfl)) pgs_nil))))
      (pss_cons (ps_set (i := 12) sc_law_parted_task.nd rfl (Or.inl rfl) (pe_fnG (d_law_mixed W) hg (hr.mono (by decide)) rfl (pa_cons (pv 0) (pa_cons (pe_listRg rfl rfl (W.free 80) (prg_1 rfl (W.free 72) (pe_callB (call_lenK (K := K)) rfl (W.free 71) PySem.boot_len (pa_cons (pv 4) pa_nil)))) pa_nil))))
      (pss_one (ps_ret (pe_tup (pa_cons (pe_callTy (call_tupleF (K := K)) rfl (W.free 76) boot_tuple (pa_cons (pv 3) pa_nil)) (pa_cons (pe_callTy (call_tupleF (K := K)) rfl (W.free 76) boot_tuple (pa_cons (pe_lc (own := [("_law_at", 10)]) rfl sc_law_parted_task.nd (pi_listK (K := K) (pv 12)) (blkOk_by (by kernel_rfl)) (fun _ _ _ _ _ => (pg_name (i := 10) sc_law_parted_task.nd rfl (Or.inl rfl))) (fun _ _ _ _ _ => pts_nil) (fun _ _ _ _ _ => (pe_ix (ix_any (K := K)) (pv 4) (pv 10) (fun _ _ => rfl)))) pa_nil)) (pa_cons (pe_callTy (call_tupleF (K := K)) rfl (W.free 76) boot_tuple (pa_cons (pe_lc (own := [("_law_at", 10)]) rfl sc_law_parted_task.nd (pi_listK (K := K) (pv 12)) (blkOk_by (by kernel_rfl)) (fun _ _ _ _ _ => (pg_name (i := 10) sc_law_parted_task.nd rfl (Or.inl rfl))) (fun _ _ _ _ _ => pts_nil) (fun _ _ _ _ _ => (pe_ix (ix_any (K := K)) (pv 5) (pv 10) (fun _ _ => rfl)))) pa_nil)) pa_nil))))))))))), ?_⟩
  rw [show L2.start ["_law_bag_here", "_law_size", "_law_most", "_law_needs_here", "_law_old", "_law_wish", "_law_is_more", "_law_need", "_law_many", "_law_first", "_law_at", "_law_spare", "_law_order"] [x, y, z] = [some x, some y, some z, none, none, none, none, none, none, none, none, none, none] from rfl]
  obtain ⟨b, k, m, rfl, hb, rfl, rfl, hk, hm, q⟩ := h
  refine sqI (asI ⟨by decide, fun pn hpn => ⟨by decide, fun po hpo => ⟨by decide, fun pw hpw => ⟨(by show 4 ≤ sizeLine; decide), fun pt hpt => ?_⟩⟩⟩⟩)
  have s1 := Same.new (o := .lst []) hpn
  have s2 := Same.new (o := .lst []) hpo
  have s3 := Same.new (o := .lst []) hpw
  have s4 := Same.new (o := .tup [.ref pn, .ref po, .ref pw, .bl true]) hpt
  have e14 := s1.trans (s2.trans (s3.trans s4))
  have npo : po ≠ pn := fun z => by rw [z, upd_same] at hpo; cases hpo
  have npw : pw ≠ pn := fun z => by rw [z, s2 _ _ upd_same] at hpw; cases hpw
  have nwo : pw ≠ po := fun z => by rw [z, upd_same] at hpw; cases hpw
  have fo : H po = none := ne_none_of s1 hpo
  have fw : H pw = none := ne_none_of (s1.trans s2) hpw
  refine ⟨pt, _, rfl, SqT.of upd_same, rfl, _, _, rfl, _, _, rfl, _, _, rfl, _, _, rfl, rfl, ?_⟩
  dsimp only [gName, List.set_cons_succ, List.set_cons_zero]
  refine sqI ⟨fun j σ H' => ∃ (ns : List Nat) (O W : Lay) (bb : Bool), (∃ o7 o8 o9 o10, σ = [some (.ref b), some (nt k), some (nt m), some (.ref pn), some (.ref po), some (.ref pw), some (.bl bb), o7, o8, o9, o10, none, none]) ∧ Same H H' ∧ H' pn = some (.lst (ns.map nt)) ∧ H' po = some (.lst (O.map it)) ∧ H' pw = some (.lst (W.map it)) ∧
      (∀ n ∈ ns, 1 ≤ n) ∧ Right ns O ∧ Right ns W ∧ none ∉ O ∧ none ∉ W ∧ O.length = W.length ∧ O.length ≤ k ∧ ns.length ≤ m ∧ j = if bb then 1 + (m - ns.length) else 0, ⟨_, [], [], [], true, ⟨_, _, _, _, rfl⟩, e14, (s2.trans (s3.trans s4)) _ _ upd_same, (s3.trans s4) _ _ upd_same, s4 _ _ upd_same, fun n h => (by cases h), ⟨fun v h => (by cases h), fun v n h => by simp at h⟩, ⟨fun v h => (by cases h), fun v n h => by simp at h⟩, (by simp), (by simp), rfl, Nat.zero_le _, Nat.zero_le _, rfl⟩, ?_⟩
  · rintro j σ H1 ⟨ns, O, W, bb, ⟨o7, o8, o9, o10, rfl⟩, e1, h1n, h1o, h1w, hpos, hro, hrw, hno, hnw, hOW, hOk, hnm, rfl⟩
    refine ⟨_, rfl, bb, rfl, tst (fun c1 => ?_) fun c1 => ?_⟩
    · subst c1
      refine ⟨fun σ' H' => ∃ j', (j' < if (true : Bool) then 1 + (m - ns.length) else 0) ∧ ∃ (ns : List Nat) (O W : Lay) (bb : Bool), (∃ o7 o8 o9 o10, σ' = [some (.ref b), some (nt k), some (nt m), some (.ref pn), some (.ref po), some (.ref pw), some (.bl bb), o7, o8, o9, o10, none, none]) ∧ Same H H' ∧ H' pn = some (.lst (ns.map nt)) ∧ H' po = some (.lst (O.map it)) ∧ H' pw = some (.lst (W.map it)) ∧
        (∀ n ∈ ns, 1 ≤ n) ∧ Right ns O ∧ Right ns W ∧ none ∉ O ∧ none ∉ W ∧ O.length = W.length ∧ O.length ≤ k ∧ ns.length ≤ m ∧ j' = if bb then 1 + (m - ns.length) else 0, fun _ _ h => h, ?_⟩
      refine sqI ⟨_, rfl, (by show 4 ≤ sizeLine; decide), fun p2 hp2 => ?_⟩
      have t2 := Same.new (o := .lst [V.int 1, .int 1, .int 1, .int 2]) hp2
      refine some4 (hb.mono (e1.trans t2)) upd_same (by simp) (by decide) fun H3 v3 e3 hv3 => ?_
      have hv3' : ∃ n : Nat, v3 = nt n ∧ 1 ≤ n ∧ n ≤ 2 := by
        simp only [List.mem_cons, List.not_mem_nil, or_false] at hv3
        rcases hv3 with h | h | h | h
        · exact ⟨1, h, by omega, by omega⟩
        · exact ⟨1, h, by omega, by omega⟩
        · exact ⟨1, h, by omega, by omega⟩
        · exact ⟨2, h, by omega, by omega⟩
      obtain ⟨n, rfl, hn1, hn2⟩ := hv3'
      refine ⟨_, rfl, (by show 4 ≤ sizeLine; decide), fun p4 hp4 => ?_⟩
      have t4 := Same.new (o := .lst [V.int 2, .int 2, .int 3, .int 4]) hp4
      refine some4 (hb.mono ((e1.trans t2).trans (e3.trans t4))) upd_same (by simp) (by decide) fun H5 v5 e5 hv5 => ?_
      have hv5' : ∃ r : Nat, v5 = nt r ∧ 2 ≤ r ∧ r ≤ 4 := by
        simp only [List.mem_cons, List.not_mem_nil, or_false] at hv5
        rcases hv5 with h | h | h | h
        · exact ⟨2, h, by omega, by omega⟩
        · exact ⟨2, h, by omega, by omega⟩
        · exact ⟨3, h, by omega, by omega⟩
        · exact ⟨4, h, by omega, by omega⟩
      obtain ⟨r, rfl, hr1, hr2⟩ := hv5'
      have e15 := t2.trans (e3.trans (t4.trans e5))
      have hE5 := e1.trans e15
      have g5n := e15 _ _ h1n
      have g5o := e15 _ _ h1o
      have g5w := e15 _ _ h1w
      refine ⟨_, _, rfl, ?_⟩
      dsimp only [List.set_cons_succ, List.set_cons_zero]
      have hprod : ((n : Int) * (r : Int)) = ((n * r : Nat) : Int) := by rw [Int.natCast_mul]
      refine sqI (asI (andV_cut (fun v H' => ∃ bb : Bool, v = .bl bb ∧ H5 = H' ∧ (bb = true → O.length + n * r ≤ k ∧ ns.length + r ≤ m)) (fun Q' hQ' => ?_) ?_))
      · refine ⟨_, rfl, po, _, rfl, .inl (SqL.of g5o), _, rfl, _, rfl, _, _, rfl, rfl, .inl ⟨by omega, by omega⟩, .inl ⟨_, _, rfl, rfl, _, rfl, _, _, rfl, rfl, _, rfl, tst (fun c2 => ?_) fun c2 => hQ' _ _ ⟨false, rfl, rfl, fun z => by cases z⟩⟩⟩
        refine ⟨_, rfl, pn, _, rfl, .inl (SqL.of g5n), _, rfl, .inl ⟨_, _, rfl, rfl, _, rfl, _, _, rfl, rfl, hQ' _ _ ⟨_, rfl, rfl, fun hbb => ?_⟩⟩⟩
        have h1 := of_decide_eq_true c2
        have h2 := of_decide_eq_true hbb
        simp only [List.length_map, hprod] at h1 h2
        omega
      rintro _ _ ⟨bb, rfl, rfl, hbb⟩
      dsimp only [gName, List.set_cons_succ, List.set_cons_zero]
      refine ifI ⟨_, rfl, bb, rfl, tst (fun c2 => ?_) fun c2 => ?_⟩
      · subst c2
        obtain ⟨hb1, hb2⟩ := hbb rfl
        refine sqI (asI ⟨_, rfl, pn, _, rfl, .inl (SqL.of g5n), ?_⟩)
        rw [List.length_map]
        dsimp only [gName, List.set_cons_succ, List.set_cons_zero]
        refine sqI ⟨_, rfl, .inl ⟨rfl, _, SqL.of g5n⟩, _, rfl, (by show 1 ≤ sizeLine; decide), fun p6 hp6 => ⟨_, rfl, p6, _, _, rfl, rfl, upd_same, by omega, by omega, by show 1 * ((r : Nat) : Int).toNat ≤ 16777216; omega, fun p7 hp7 => ?_⟩⟩
        have t6 := Same.new (o := .lst [nt n]) hp6
        have erep : (List.replicate ((r : Nat) : Int).toNat [nt n]).flatten = (List.replicate r n).map nt := by
          rw [Int.toNat_natCast]
          exact nreps r n
        rw [erep]
        have t7 := Same.new (o := .lst ((List.replicate r n).map nt)) hp7
        have t67 := t6.trans t7
        have g7n := t67 _ _ g5n
        refine ⟨pn, p7, _, _, rfl, rfl, g7n, upd_same, by rw [List.length_map, List.length_map, List.length_replicate]; show _ ≤ 16777216; omega, ?_⟩
        rw [← List.map_append]
        have hfn : H pn = none := hpn
        have hE8 : Same H (upd (upd (upd H5 p6 (.lst [nt n])) p7 (.lst ((List.replicate r n).map nt))) pn (.lst ((ns ++ List.replicate r n).map nt))) := Same.mut (hE5.trans t67) hpn
        have g8n : upd (upd (upd H5 p6 (.lst [nt n])) p7 (.lst ((List.replicate r n).map nt))) pn (.lst ((ns ++ List.replicate r n).map nt)) pn = some (.lst ((ns ++ List.replicate r n).map nt)) := upd_same
        have g8o : upd (upd (upd H5 p6 (.lst [nt n])) p7 (.lst ((List.replicate r n).map nt))) pn (.lst ((ns ++ List.replicate r n).map nt)) po = some (.lst (O.map it)) := by rw [upd_ne npo]; exact t67 _ _ g5o
        have g8w : upd (upd (upd H5 p6 (.lst [nt n])) p7 (.lst ((List.replicate r n).map nt))) pn (.lst ((ns ++ List.replicate r n).map nt)) pw = some (.lst (W.map it)) := by rw [upd_ne npw]; exact t67 _ _ g5w
        generalize upd (upd (upd H5 p6 (.lst [nt n])) p7 (.lst ((List.replicate r n).map nt))) pn (.lst ((ns ++ List.replicate r n).map nt)) = H8 at hE8 g8n g8o g8w ⊢
        dsimp only [gName, List.set_cons_succ, List.set_cons_zero]
        refine sqI (frI ⟨_, rfl, frN (by omega) (forRng (fun j σ H' => ∃ (O' W' : Lay), (∃ o10, σ = [some (.ref b), some (nt k), some (nt m), some (.ref pn), some (.ref po), some (.ref pw), some (.bl true), some (nt n), some (nt r), some (nt ns.length), o10, none, none]) ∧ Same H H' ∧ H' pn = some (.lst ((ns ++ List.replicate r n).map nt)) ∧ H' po = some (.lst (O'.map it)) ∧ H' pw = some (.lst (W'.map it)) ∧ Blk ns n r j O' W' O.length) ?_ ?_ ?_)⟩)
        · exact ⟨O, W, ⟨_, rfl⟩, hE8, g8n, g8o, g8w, Blk.start hro hrw hno hnw hOW (by omega)⟩
        · rintro j σ H9 hj ⟨O9, W9, ⟨o10', rfl⟩, e9, g9n, g9o, g9w, hB9⟩
          have hjn : j * n ≤ 8 := by have := Nat.mul_le_mul (show j ≤ 4 by omega) hn2; omega
          refine sqI ⟨_, rfl, .inl ⟨rfl, _, SqL.of g9o⟩, _, rfl, _, rfl, .inl ⟨_, _, rfl, rfl, (by show 1 ≤ sizeLine; decide), fun p10 hp10 => ⟨_, rfl, p10, _, _, rfl, rfl, upd_same, by omega, by omega, by show 1 * ((n : Nat) : Int).toNat ≤ 16777216; omega, fun p11 hp11 => ?_⟩⟩⟩
          have er1 : (List.replicate ((n : Nat) : Int).toNat [V.int ((ns.length : Nat) + (j : Nat))]).flatten = (List.replicate n (some (ns.length + j))).map it := by rw [Int.toNat_natCast]; exact reps n (some (ns.length + j))
          rw [er1]
          have t10 := Same.new (o := .lst [V.int ((ns.length : Nat) + (j : Nat))]) hp10
          have t11 := Same.new (o := .lst ((List.replicate n (some (ns.length + j))).map it)) hp11
          have t1011 := t10.trans t11
          refine ⟨po, p11, _, _, rfl, rfl, t1011 _ _ g9o, upd_same, by rw [List.length_map, List.length_map, List.length_replicate, hB9.lo]; show _ ≤ 16777216; omega, ?_⟩
          rw [← List.map_append]
          have y12n : upd (upd (upd H9 p10 (.lst [V.int ((ns.length : Nat) + (j : Nat))])) p11 (.lst ((List.replicate n (some (ns.length + j))).map it))) po (.lst ((O9 ++ List.replicate n (some (ns.length + j))).map it)) pn = some (.lst ((ns ++ List.replicate r n).map nt)) := by rw [upd_ne (Ne.symm npo)]; exact t1011 _ _ g9n
          have y12w : upd (upd (upd H9 p10 (.lst [V.int ((ns.length : Nat) + (j : Nat))])) p11 (.lst ((List.replicate n (some (ns.length + j))).map it))) po (.lst ((O9 ++ List.replicate n (some (ns.length + j))).map it)) pw = some (.lst (W9.map it)) := by rw [upd_ne nwo]; exact t1011 _ _ g9w
          have y12o : upd (upd (upd H9 p10 (.lst [V.int ((ns.length : Nat) + (j : Nat))])) p11 (.lst ((List.replicate n (some (ns.length + j))).map it))) po (.lst ((O9 ++ List.replicate n (some (ns.length + j))).map it)) po = some (.lst ((O9 ++ List.replicate n (some (ns.length + j))).map it)) := upd_same
          have e12 : Same H (upd (upd (upd H9 p10 (.lst [V.int ((ns.length : Nat) + (j : Nat))])) p11 (.lst ((List.replicate n (some (ns.length + j))).map it))) po (.lst ((O9 ++ List.replicate n (some (ns.length + j))).map it))) := Same.mut (e9.trans t1011) fo
          generalize upd (upd (upd H9 p10 (.lst [V.int ((ns.length : Nat) + (j : Nat))])) p11 (.lst ((List.replicate n (some (ns.length + j))).map it))) po (.lst ((O9 ++ List.replicate n (some (ns.length + j))).map it)) = H12 at y12n y12w y12o e12 ⊢
          dsimp only [gName, List.set_cons_succ, List.set_cons_zero]
          refine ⟨_, rfl, .inl ⟨rfl, _, SqL.of y12w⟩, _, rfl, _, rfl, .inl ⟨_, _, rfl, rfl, .inl ⟨_, rfl, _, rfl, _, _, rfl, rfl, by show (r : Int) ≠ 0; omega, .inl ⟨_, _, rfl, rfl, (by show 1 ≤ sizeLine; decide), fun p13 hp13 => ⟨_, rfl, p13, _, _, rfl, rfl, upd_same, by omega, by omega, by show 1 * ((n : Nat) : Int).toNat ≤ 16777216; omega, fun p14 hp14 => ?_⟩⟩⟩⟩⟩
          have ev : V.int ((ns.length : Int) + Int.fmod ((j : Int) + 1) (r : Int)) = nt (ns.length + (j + 1) % r) := by
            rw [show (j : Int) + 1 = ((j + 1 : Nat) : Int) by omega, fmod_nat]; rfl
          dsimp only at hp14 ⊢
          rw [ev] at hp14 ⊢
          have er2 : (List.replicate ((n : Nat) : Int).toNat [nt (ns.length + (j + 1) % r)]).flatten = (List.replicate n (some (ns.length + (j + 1) % r))).map it := by rw [Int.toNat_natCast]; exact reps n (some (ns.length + (j + 1) % r))
          rw [er2]
          have t13 := Same.new (o := .lst [nt (ns.length + (j + 1) % r)]) hp13
          have t14 := Same.new (o := .lst ((List.replicate n (some (ns.length + (j + 1) % r))).map it)) hp14
          have t1314 := t13.trans t14
          refine ⟨pw, p14, _, _, rfl, rfl, t1314 _ _ y12w, upd_same, by rw [List.length_map, List.length_map, List.length_replicate, hB9.lw]; show _ ≤ 16777216; omega, _, _, ⟨_, rfl⟩, Same.mut (e12.trans t1314) fw, ?_, ?_, by rw [upd_same, List.map_append], hB9.step hj⟩
          · rw [upd_ne (Ne.symm npw)]; exact t1314 _ _ y12n
          · rw [upd_ne (Ne.symm nwo)]; exact t1314 _ _ y12o
        · rintro σ H9 ⟨O9, W9, ⟨o10', rfl⟩, e9, g9n, g9o, g9w, hB9⟩
          obtain ⟨d1, d2⟩ := hB9.done
          have hlo := hB9.lo
          have hlw := hB9.lw
          rw [Nat.mul_comm] at hlo hlw
          dsimp only [gName, List.set_cons_succ, List.set_cons_zero]
          refine asI ⟨_, rfl, _, _, rfl, b, 5, rfl, rfl, hb.mono e9, by decide, by decide, fun H10 z e10 hz => ⟨_, _, rfl, rfl, ?_⟩⟩
          refine ⟨_, ?_, ns ++ List.replicate r n, O9, W9, _, ⟨_, _, _, _, rfl⟩, e9.trans e10, e10 _ _ g9n, e10 _ _ g9o, e10 _ _ g9w, fun n' hn' => ?_, d1, d2, hB9.no, hB9.nw, by rw [hlo, hlw], by rw [hlo]; exact hb1, by rw [List.length_append, List.length_replicate]; exact hb2, rfl⟩
          · rw [List.length_append, List.length_replicate, if_pos rfl]
            split <;> omega
          · rcases List.mem_append.mp hn' with h | h
            · exact hpos n' h
            · rw [(List.mem_replicate.mp h).2]; exact hn1
      · subst c2
        exact ⟨0, by rw [if_pos rfl]; omega, ns, O, W, false, ⟨_, _, _, _, rfl⟩, hE5, g5n, g5o, g5w, hpos, hro, hrw, hno, hnw, hOW, hOk, hnm, rfl⟩
    · dsimp only [gName, List.set_cons_succ, List.set_cons_zero]
      refine sqI (asI ⟨_, rfl, (by show 7 ≤ sizeLine; decide), fun p2 hp2 => ?_⟩)
      have t2 := Same.new (o := .lst [V.int 0, .int 1, .int 1, .int 2, .int 2, .int 3, .int 4]) hp2
      refine some4 (hb.mono (e1.trans t2)) upd_same (by simp) (by decide) fun H3 v3 e3 hv3 => ?_
      have hv3' : ∃ n : Nat, v3 = nt n ∧ n ≤ 4 := by
        simp only [List.mem_cons, List.not_mem_nil, or_false] at hv3
        rcases hv3 with h | h | h | h | h | h | h
        · exact ⟨0, h, by omega⟩
        · exact ⟨1, h, by omega⟩
        · exact ⟨1, h, by omega⟩
        · exact ⟨2, h, by omega⟩
        · exact ⟨2, h, by omega⟩
        · exact ⟨3, h, by omega⟩
        · exact ⟨4, h, by omega⟩
      obtain ⟨d, rfl, hd⟩ := hv3'
      have e13 := t2.trans e3
      have g3n := e13 _ _ h1n
      have g3o := e13 _ _ h1o
      have g3w := e13 _ _ h1w
      have hE3 := e1.trans e13
      refine ⟨_, rfl, _, rfl, po, _, rfl, .inl (SqL.of g3o), _, _, rfl, rfl, _, _, rfl, ?_⟩
      rw [List.length_map]
      have hsp : ∃ n : Nat, V.int (if (k : Int) - (O.length : Nat) < (d : Int) then (k : Int) - (O.length : Nat) else (d : Int)) = nt n ∧ O.length + n ≤ k := by
        by_cases h : (k : Int) - (O.length : Nat) < (d : Int)
        · exact ⟨k - O.length, by rw [if_pos h]; show V.int _ = V.int _; congr 1; omega, by omega⟩
        · exact ⟨d, by rw [if_neg h], by omega⟩
      obtain ⟨n, en, hn⟩ := hsp
      rw [en]
      dsimp only [gName, List.set_cons_succ, List.set_cons_zero]
      refine sqI (asI ⟨_, rfl, (by show 1 ≤ sizeLine; decide), fun p4 hp4 => ⟨_, rfl, p4, _, _, rfl, rfl, upd_same, by omega, by omega, by show 1 * ((n : Nat) : Int).toNat ≤ 16777216; omega, fun p5 hp5 => ?_⟩⟩)
      have erep : (List.replicate ((n : Nat) : Int).toNat [V.non]).flatten = (List.replicate n none).map it := by rw [Int.toNat_natCast]; exact reps n none
      rw [erep]
      have t4 := Same.new (o := .lst [V.non]) hp4
      have t5 := Same.new (o := .lst ((List.replicate n none).map it)) hp5
      refine catL ((t4.trans t5) _ _ g3o) upd_same (by rw [List.length_map, List.length_map, List.length_replicate]; show _ ≤ 16777216; omega) fun p6 hp6 => ?_
      rw [← List.map_append]
      have t6 := Same.new (o := .lst ((O ++ List.replicate n none).map it)) hp6
      refine ⟨_, rfl, (by show 1 ≤ sizeLine; decide), fun p7 hp7 => ⟨_, rfl, p7, _, _, rfl, rfl, upd_same, by omega, by omega, by show 1 * ((n : Nat) : Int).toNat ≤ 16777216; omega, fun p8 hp8 => ?_⟩⟩
      rw [erep]
      have t7 := Same.new (o := .lst [V.non]) hp7
      have t8 := Same.new (o := .lst ((List.replicate n none).map it)) hp8
      have t48 := t4.trans (t5.trans (t6.trans (t7.trans t8)))
      refine catL (t48 _ _ g3w) upd_same (by rw [List.length_map, List.length_map, List.length_replicate]; show _ ≤ 16777216; omega) fun p9 hp9 => ?_
      rw [← List.map_append]
      have t9 := Same.new (o := .lst ((W ++ List.replicate n none).map it)) hp9
      refine ⟨(by show 2 ≤ sizeLine; decide), fun p10 hp10 => ?_⟩
      have t10 := Same.new (o := .tup [V.ref p6, .ref p9]) hp10
      refine ⟨p10, _, rfl, SqT.of upd_same, rfl, _, _, rfl, _, _, rfl, rfl, ?_⟩
      have hO := (t7.trans (t8.trans (t9.trans t10))) p6 _ upd_same
      have hW := t10 p9 _ upd_same
      have hE10 := hE3.trans (t48.trans (t9.trans t10))
      have g10n := (t48.trans (t9.trans t10)) _ _ g3n
      have hO' : upd (upd (upd (upd (upd (upd (upd H3 p4 (.lst [V.non])) p5 (.lst ((List.replicate n none).map it))) p6 (.lst ((O ++ List.replicate n none).map it))) p7 (.lst [V.non])) p8 (.lst ((List.replicate n none).map it))) p9 (.lst ((W ++ List.replicate n none).map it))) p10 (.tup [V.ref p6, .ref p9]) p6 = some (.lst ((O ++ List.replicate n none).map it)) := hO
      clear hO
      generalize upd (upd (upd (upd (upd (upd (upd H3 p4 (.lst [V.non])) p5 (.lst ((List.replicate n none).map it))) p6 (.lst ((O ++ List.replicate n none).map it))) p7 (.lst [V.non])) p8 (.lst ((List.replicate n none).map it))) p9 (.lst ((W ++ List.replicate n none).map it))) p10 (.tup [V.ref p6, .ref p9]) = H10 at hO' hW hE10 g10n ⊢
      have hrO : Right ns (O ++ List.replicate n none) := right_app hro fun v hv => by have := (List.mem_replicate.mp hv).2; cases this
      have hrW : Right ns (W ++ List.replicate n none) := right_app hrw fun v hv => by have := (List.mem_replicate.mp hv).2; cases this
      have hAl : (O ++ List.replicate n none).length ≤ k := by rw [List.length_append, List.length_replicate]; exact hn
      have hBl : (W ++ List.replicate n none).length = (O ++ List.replicate n none).length := by rw [List.length_append, List.length_append, hOW]
      have hst := fun {od : List Nat} (hod : ∀ i ∈ od, i < (O ++ List.replicate n none).length) => order_stays (n := n) hno hOW hod
      generalize O ++ List.replicate n none = A at hO' hrO hAl hBl hst ⊢
      generalize W ++ List.replicate n none = B at hW hrW hBl hst ⊢
      dsimp only [gName, List.set_cons_succ, List.set_cons_zero]
      refine sqI (asI ⟨_, rfl, _, rfl, p6, _, rfl, .inl (SqL.of hO'), _, rfl, ?_⟩)
      refine ⟨RgOk.of_le (by decide) (by rw [List.length_map]; omega) (by decide) (by omega), fun p11 hp11 => ?_⟩
      rw [List.length_map, rgV_nt]
      have t11 := Same.new (o := .lst ((List.range A.length).map nt)) hp11
      refine ⟨_, _, rfl, b, p11, _, rfl, rfl, (hb.mono hE10).mono t11, SqL.of upd_same, by rw [List.length_map, List.length_range]; omega, fun H12 p12 ys e12 hp12 h12 hperm => ?_⟩
      obtain ⟨od, rfl, hod⟩ := perm_nts hperm
      have hodl : ∀ i ∈ od, i < A.length := fun i hi => List.mem_range.mp (hod.mem_iff.mp hi)
      have hol : od.length = A.length := by rw [hod.length_eq, List.length_range]
      have e1012 := t11.trans e12
      dsimp only [gName, List.set_cons_succ, List.set_cons_zero]
      refine rtI ⟨_, rfl, pn, _, rfl, SqL.of (e1012 _ _ g10n), fun p13 o13 hp13 ho13 => ?_⟩
      have t13 := Same.new (o := .frz o13 (.tup (ns.map nt))) hp13
      refine cb1 (lcI ⟨_, rfl, p12, rfl, ⟨_, SqL.of (t13 _ _ h12)⟩, mpL od nt (fun i => it (A.getD i none)) (SqL.of (t13 _ _ h12)) (by omega) (fun i H14 hi e14' Z hz => ?_) fun D14 H14 hD14 e14' h14 => ?_⟩)
      · exact ⟨rfl, _, rfl, _, rfl, ixL (SqL.of ((e1012.trans (t13.trans e14')) _ _ hO')) (atI_nat (it_get (hodl i hi))) (hz _ (Same.refl _))⟩
      refine ⟨D14, _, rfl, SqL.of h14, fun p15 o15 hp15 ho15 => ?_⟩
      have em1 : od.map (fun i => it (A.getD i none)) = (od.map fun i => A.getD i none).map it := by rw [List.map_map]; rfl
      rw [em1]
      have t15 := Same.new (o := .frz o15 (.tup ((od.map fun i => A.getD i none).map it))) hp15
      have e1015 := e1012.trans (t13.trans (e14'.trans t15))
      have h15 := (t13.trans (e14'.trans t15)) _ _ h12
      refine cb1 (lcI ⟨_, rfl, p12, rfl, ⟨_, SqL.of h15⟩, mpL od nt (fun i => it (B.getD i none)) (SqL.of h15) (by omega) (fun i H16 hi e16 Z hz => ?_) fun D16 H16 hD16 e16 h16 => ?_⟩)
      · exact ⟨rfl, _, rfl, _, rfl, ixL (SqL.of ((e1015.trans e16) _ _ hW)) (atI_nat (it_get (by rw [hBl]; exact hodl i hi))) (hz _ (Same.refl _))⟩
      refine ⟨D16, _, rfl, SqL.of h16, fun p17 o17 hp17 ho17 => ?_⟩
      have em2 : od.map (fun i => it (B.getD i none)) = (od.map fun i => B.getD i none).map it := by rw [List.map_map]; rfl
      rw [em2]
      have t17 := Same.new (o := .frz o17 (.tup ((od.map fun i => B.getD i none).map it))) hp17
      refine ⟨(by show 3 ≤ sizeLine; decide), fun p18 hp18 => ?_⟩
      have e1517 := e16.trans t17
      refine q _ _ ⟨ns, od.map fun i => A.getD i none, od.map fun i => B.getD i none⟩ ((hE10.trans e1015).trans (e1517.trans (Same.new hp18))) (tk_new hp18 ⟨p13, rfl, .inl (.inr ⟨o13, ((e14'.trans t15).trans e1517) _ _ upd_same⟩)⟩ ⟨p15, o15, rfl, e1517 _ _ upd_same, ho15⟩ ⟨p17, o17, rfl, upd_same, ho17⟩) ⟨hpos, right_perm hrO (order_perm hod), right_perm hrW (order_perm (by rw [hBl]; exact hod)), by simp⟩ ?_ hnm (hst hodl)
      show (od.map fun i => A.getD i none).length ≤ _
      rw [List.length_map]
      omega
end Wm
set_option Elab.async false
set_option linter.all false
set_option maxRecDepth 100000
set_option maxHeartbeats 4000000
/-! stayed tasks, tasks beside each other -/
namespace Wm
open PySem PySem.Spec PyProof.Rows L2
theorem catFz {K : PySem.W.Frag} {H : Hp} {a b : Addr} {L1 L2 : Lay} {Q : VK} (ha : LyF K H (.ref a) L1) (hb : LyF K H (.ref b) L2) (hn : L1.length + L2.length ≤ 16777216) (q : ∀ H' c, Same H H' → LyF K H' (.ref c) (L1 ++ L2) → Q (.ref c) H') : rCatF K (.ref a) (.ref b) H Q := by
  obtain ⟨a', ea, ha1⟩ := ha.t
  cases ea
  obtain ⟨b', eb, hb1⟩ := hb.t
  cases eb
  refine ⟨a, b, _, _, rfl, rfl, ha1, hb1, by rw [List.length_map, List.length_map]; exact hn, fun e => ?_, fun _ e => ?_, fun _ _ p o hp ho => ?_⟩
  · have : L1 = [] := List.map_eq_nil_iff.mp e
    subst this
    exact q H b (Same.refl _) hb
  · have : L2 = [] := List.map_eq_nil_iff.mp e
    subst this
    refine q H a (Same.refl _) ?_
    rw [List.append_nil]
    exact ha
  · refine q _ p (Same.new hp) ⟨p, o, rfl, ?_, ho⟩
    rw [upd_same, List.map_append]
theorem sc_law_beside : FnScope ["_law_one", "_law_other", "_law_many", "_law_row", "_law_item", "_law_moved"] ["_law_one", "_law_other"] (defScope s_law_beside) := ⟨rfl, rfl, rfl, by decide +kernel, rfl, by decide +kernel, by decide +kernel⟩
theorem d_law_beside {P : Program} {w : World} {K : PySem.W.Frag} {mg : Str → Option Value} {base : Heap} (W : Wd K mg base) : DnG P w K mg base 1 "_law_beside" (sp2 (pBeside K)) := by
  refine W.dnG (st := s_law_beside) (ps := ["_law_one", "_law_other"]) 42 42 rfl rfl (fun _ _ _ _ _ _ us hl => match us, hl with | [_, _], _ => rfl) fun f fd F => ?_
  refine FnG.ofD F sc_law_beside (fun vs H Q E h => ?_) (fun cdv A outer s H vs Q E hg hr h => ?_)
  · obtain ⟨_, _, rfl, _⟩ := h; rfl
  obtain ⟨x, y, rfl, h⟩ := h
  refine ⟨_, PSs.nox (pss_cons (ps_set (i := 2) sc_law_beside.nd rfl (Or.inr rfl) (pe_callB (call_lenK (K := K)) rfl (W.free 71) PySem.boot_len (pa_cons (pe_ix (ix_any (K := K)) (pv 0) pe_int (fun _ _ => rfl)) pa_nil)))
      (pss_cons (ps_setLc (i := 5) (own := [("_law_row", 3)]) rfl sc_law_beside.nd rfl rfl (sw_true rfl rfl rfl (by decide +kernel)) (pi_tupK (K := K) (pe_slice (sl_any (K := K)) (pv 1) (po_some pe_int) po_none)) (blkOk_by (by kernel_rfl)) (fun _ _ _ _ _ => (pg_name (i := 3) sc_law_beside.nd rfl (Or.inl rfl))) (fun _ _ _ _ _ => pts_nil) (fun _ _ _ _ _ => (pe_lc (own := [("_law_item", 4)]) rfl sc_law_beside.nd (pi_tupK (K := K) (pv 3)) (blkOk_by (by kernel_rfl)) (fun _ _ _ _ _ => (pg_name (i := 4) sc_law_beside.nd rfl (Or.inl rfl))) (fun _ _ _ _ _ => pts_nil) (fun _ _ _ _ _ => (pe_ifExp (pt_cmpR op_notN (pv 4) pe_non (nomark _)) (pe_op (op_addA (K := K)) (pv 4) (pv 2)) pe_non)))))
      (pss_one (ps_ret (pe_tup (pa_cons (pe_op (op_addA (K := K)) (pe_ix (ix_any (K := K)) (pv 0) pe_int (fun _ _ => rfl)) (pe_ix (ix_any (K := K)) (pv 1) pe_int (fun _ _ => rfl))) (pa_cons (pe_op (op_catF (K := K)) (pe_ix (ix_any (K := K)) (pv 0) pe_int (fun _ _ => rfl)) (pe_callTy (call_tupleF (K := K)) rfl (W.free 76) boot_tuple (pa_cons (pe_ix (ix_any (K := K)) (pv 5) pe_int (fun _ _ => rfl)) pa_nil))) (pa_cons (pe_op (op_catF (K := K)) (pe_ix (ix_any (K := K)) (pv 0) pe_int (fun _ _ => rfl)) (pe_callTy (call_tupleF (K := K)) rfl (W.free 76) boot_tuple (pa_cons (pe_ix (ix_any (K := K)) (pv 5) pe_int (fun _ _ => rfl)) pa_nil))) pa_nil)))))))), ?_⟩
  rw [show L2.start ["_law_one", "_law_other", "_law_many", "_law_row", "_law_item", "_law_moved"] [x, y] = [some x, some y, none, none, none, none] from rfl]
  obtain ⟨T1, T2, ⟨t1, a1, b1, d1, rfl, ht1, hn1, ho1, hw1⟩, ⟨t2, a2, b2, d2, rfl, ht2, hn2, ho2, hw2⟩, l1, l2, l3, l4, l5, l6, q⟩ := h
  obtain ⟨c1, rfl, hc1⟩ := hn1
  obtain ⟨c2, rfl, hc2⟩ := hn2
  obtain ⟨q1, rfl, hq1⟩ := ho1.t
  obtain ⟨q2, rfl, hq2⟩ := ho2.t
  obtain ⟨w1, rfl, hw1'⟩ := hw1.t
  obtain ⟨w2, rfl, hw2'⟩ := hw2.t
  refine sqI (asI ⟨_, rfl, ixT ht1 rfl ⟨c1, _, rfl, .inr hc1, ?_⟩⟩)
  rw [List.length_map]
  dsimp only [gName, List.set_cons_succ, List.set_cons_zero]
  refine sqI (asI (lcI ⟨_, rfl, 1, rfl, slT ht2 fun H1 c3 e1 h3 => ?_⟩))
  have h3' : SqT K H1 c3 [V.ref q2, .ref w2] := h3
  refine ⟨c3, rfl, ⟨_, h3'⟩, lcFr (xs := [V.ref q2, .ref w2]) (fun i => ((if i = 0 then T2.old else T2.wish).map (shf T1.ns.length)).map it) h3' (by show 2 ≤ 100000; decide) (fun i x H2 hx e2 Z hz => ?_) fun D H2 ls hD e2 h2 hll hls => ?_⟩
  · have hrow : ∃ r, x = .ref r ∧ SqT K H2 r ((if i = 0 then T2.old else T2.wish).map it) ∧ (if i = 0 then T2.old else T2.wish).length ≤ 100 := by
      match i, hx with
      | 0, hx => cases hx; exact ⟨q2, rfl, same_t (e1.trans e2) hq2, l4⟩
      | 1, hx => cases hx; exact ⟨w2, rfl, same_t (e1.trans e2) hw2', by show T2.wish.length ≤ 100; omega⟩
    obtain ⟨r, rfl, hr, hrl⟩ := hrow
    generalize (if i = 0 then T2.old else T2.wish) = R at hr hrl hz
    refine ⟨rfl, lcI ⟨_, rfl, r, rfl, ⟨_, hr⟩, mpT R it (fun o => it (shf T1.ns.length o)) hr (by omega) (fun o H3 _ e3 Z' hz' => ?_) fun D3 H3 hD3 e3 h3 => hz H3 D3 e3 hD3 (by rw [h3, List.map_map]; rfl)⟩⟩
    refine ⟨rfl, ?_⟩
    cases o with
    | none => exact ⟨_, rfl, rfl, _, rfl, iteF (hz' _ (Same.refl _))⟩
    | some u => exact ⟨_, rfl, rfl, _, rfl, iteT ⟨_, rfl, _, rfl, .inl ⟨_, _, rfl, rfl, hz' _ (Same.refl _)⟩⟩⟩
  · obtain ⟨m0, m1, rfl⟩ : ∃ m0 m1, ls = [m0, m1] := by
      match ls, hll with
      | [m0, m1], _ => exact ⟨m0, m1, rfl⟩
    have g0 := (hls 0 m0 rfl).2
    have g1 := (hls 1 m1 rfl).2
    have e12 := e1.trans e2
    dsimp only [gName, List.set_cons_succ, List.set_cons_zero]
    refine rtI ⟨_, rfl, ixT (same_t e12 ht1) rfl ⟨_, rfl, ixT (same_t e12 ht2) rfl (catT (same_t e12 hc1) (same_t e12 hc2) (by rw [List.length_map, List.length_map]; show _ ≤ 16777216; omega) fun H3 c4 e3 h4 => ?_)⟩⟩
    have e13 := e12.trans e3
    refine ⟨_, rfl, ixT (same_t e13 ht1) rfl ⟨_, rfl, ixL (SqL.of (e3 _ _ h2)) rfl ⟨m0, _, rfl, SqL.of (e3 _ _ g0), fun p5 o5 hp5 ho5 => ?_⟩⟩⟩
    have t5 := Same.new (o := .frz o5 (.tup (((if 0 = 0 then T2.old else T2.wish).map (shf T1.ns.length)).map it))) hp5
    refine catFz (ho1.mono (e13.trans t5)) ⟨p5, o5, rfl, upd_same, ho5⟩ (by rw [List.length_map]; show _ + T2.old.length ≤ 16777216; omega) fun H6 c6 e6 h6 => ?_
    have e36 := t5.trans e6
    refine ⟨_, rfl, ixT (same_t (e13.trans e36) ht1) rfl ⟨_, rfl, ixL (SqL.of ((e3.trans e36) _ _ h2)) rfl ⟨m1, _, rfl, SqL.of ((e3.trans e36) _ _ g1), fun p7 o7 hp7 ho7 => ?_⟩⟩⟩
    have t7 := Same.new (o := .frz o7 (.tup (((if 1 = 0 then T2.old else T2.wish).map (shf T1.ns.length)).map it))) hp7
    refine catFz (hw1.mono ((e13.trans e36).trans t7)) ⟨p7, o7, rfl, upd_same, ho7⟩ (by rw [List.length_map]; show _ + T2.wish.length ≤ 16777216; omega) fun H8 c8 e8 h8 => ⟨(by show 3 ≤ sizeLine; decide), fun p9 hp9 => ?_⟩
    have e78 := t7.trans e8
    refine q _ _ ((e13.trans e36).trans (e78.trans (Same.new hp9))) (tk_new hp9 ⟨c4, rfl, ?_⟩ (h6.mono e78) h8)
    show SqT K H8 c4 ((T1.ns ++ T2.ns).map nt)
    rw [List.map_append]; exact same_t (e36.trans e78) h4
theorem sc_law_stayed_task : FnScope ["_law_bag_here", "_law_size", "_law_most", "_law_base", "_law_needs_here", "_law_old", "_law_wish", "_law_at", "_law_item", "_law_full", "_law_value", "_law_more", "_law_order"] ["_law_bag_here", "_law_size", "_law_most"] (defScope s_law_stayed_task) := ⟨rfl, rfl, rfl, by decide +kernel, rfl, by decide +kernel, by decide +kernel⟩
theorem d_law_stayed_task {P : Program} {w : World} {K : PySem.W.Frag} {mg : Str → Option Value} {base : Heap} (W : Wd K mg base) : DnG P w K mg base 6 "_law_stayed_task" (sp3 (pMk K)) := by
  refine W.dnG (st := s_law_stayed_task) (ps := ["_law_bag_here", "_law_size", "_law_most"]) 38 38 rfl rfl (fun _ _ _ _ _ _ us hl => match us, hl with | [_, _, _], _ => rfl) fun f fd F => ?_
  refine FnG.ofD F sc_law_stayed_task (fun vs H Q E h => ?_) (fun cdv A outer s H vs Q E hg hr h => ?_)
  · obtain ⟨_, _, _, rfl, _⟩ := h; rfl
  have hu := hr.units
  obtain ⟨x, y, z, rfl, h⟩ := h
  have hA : ∀ g, (g = He.ga K "_law_parted_task" ∨ g = He.ga K "_law_even_task") → FnRG P w K mg base 5 g (sp3 (pMkS K)) ∧ PySem.W.keepIn K (.ref g) = true := fun g hh => hh.elim (fun e => by subst e; exact (d_law_parted_task W).at (W.glo 37) (by decide)) fun e => by subst e; exact (d_law_even_task W).at (W.glo 36) (by decide)
  refine ⟨_, PSs.nox (pss_cons (ps_set (i := 3) sc_law_stayed_task.nd rfl (Or.inl rfl) (pe_ifExp (pt_cmpR (op_eqA hu (K := K)) (pe_fnG (d_law_take W) hg (hr.mono (by decide)) rfl (pa_cons (pv 0) (pa_cons pe_int pa_nil))) pe_int (nomark _)) (pe_glob (v := .ref (He.ga K "_law_parted_task")) rfl (W.glo 37) rfl) (pe_glob (v := .ref (He.ga K "_law_even_task")) rfl (W.glo 36) rfl)))
      (pss_cons (ps_asg (pe_locG (i := 3) (A := fun f => f = He.ga K "_law_parted_task" ∨ f = He.ga K "_law_even_task") (k := 5) hA hg (hr.mono (by decide)) rfl (Or.inl rfl) (pa_cons (pv 0) (pa_cons (pe_callB (call_max2 rfl) rfl (W.free 83) boot_max (pa_cons pe_int (pa_cons (pe_op op_sub (pv 1) pe_int) pa_nil))) (pa_cons (pe_callB (call_max2 rfl) rfl (W.free 83) boot_max (pa_cons pe_int (pa_cons (pe_op op_sub (pv 2) pe_int) pa_nil))) pa_nil)))) (pg_tupK (K := K) (n := 3) rfl (pgs_cons (pg_name (i := 4) sc_law_stayed_task.nd rfl (Or.inl rfl)) (pgs_cons (pg_name (i := 5) sc_law_stayed_task.nd rfl (Or.inr rfl)) (pgs_cons (pg_name (i := 6) sc_law_stayed_task.nd rfl (Or.inr rfl)) pgs_nil)))))
      (pss_cons (ps_setLc (i := 9) (own := [("_law_at", 7), ("_law_item", 8)]) rfl sc_law_stayed_task.nd rfl rfl (sw_true rfl rfl rfl (by decide +kernel)) (pi_enumT rfl (W.free 78) (pa_cons (pv 5) pa_nil)) (blkOk_by (by kernel_rfl)) (fun _ _ _ _ _ => (pg_tupK (K := K) (n := 2) rfl (pgs_cons (pg_name (i := 7) sc_law_stayed_task.nd rfl (Or.inl rfl)) (pgs_cons (pg_name (i := 8) sc_law_stayed_task.nd rfl (Or.inl rfl)) pgs_nil)))) (fun _ _ _ _ _ => (pts_one (pt_cmpR op_notN (pv 8) pe_non (nomark _)))) (fun _ _ _ _ _ => (pv 7)))
      (pss_cons (ps_par (i := 10) (j := 11) rfl sc_law_stayed_task.nd rfl rfl (by decide) rfl rfl (pa_cons (pe_callB (call_lenK (K := K)) rfl (W.free 71) PySem.boot_len (pa_cons (pv 4) pa_nil)) (pa_cons (pe_op (op_addA (K := K)) pe_int (pe_fnG (d_law_take W) hg (hr.mono (by decide)) rfl (pa_cons (pv 0) (pa_cons pe_int pa_nil)))) pa_nil)) (by rfl))
      (pss_cons (ps_set (i := 5) sc_law_stayed_task.nd rfl (Or.inr rfl) (pe_op (op_addA (K := K)) (pe_lc (own := [("_law_at", 7)]) rfl sc_law_stayed_task.nd (pi_listK (K := K) (pv 9)) (blkOk_by (by kernel_rfl)) (fun _ _ _ _ _ => (pg_name (i := 7) sc_law_stayed_task.nd rfl (Or.inl rfl))) (fun _ _ _ _ _ => pts_nil) (fun _ _ _ _ _ => (pe_ix (ix_any (K := K)) (pv 5) (pv 7) (fun _ _ => rfl)))) (pe_op op_rep (pe_lst (pa_cons (pv 10) pa_nil)) (pv 11))))
      (pss_cons (ps_set (i := 6) sc_law_stayed_task.nd rfl (Or.inr rfl) (pe_op (op_addA (K := K)) (pe_lc (own := [("_law_at", 7)]) rfl sc_law_stayed_task.nd (pi_listK (K := K) (pv 9)) (blkOk_by (by kernel_rfl)) (fun _ _ _ _ _ => (pg_name (i := 7) sc_law_stayed_task.nd rfl (Or.inl rfl))) (fun _ _ _ _ _ => pts_nil) (fun _ _ _ _ _ => (pe_ix (ix_any (K := K)) (pv 6) (pv 7) (fun _ _ => rfl)))) (pe_op op_rep (pe_lst (pa_cons (pv 10) pa_nil)) (pv 11))))
      (pss_cons (ps_set (i := 12) sc_law_stayed_task.nd rfl (Or.inl rfl) (pe_fnG (d_law_mixed W) hg (hr.mono (by decide)) rfl (pa_cons (pv 0) (pa_cons (pe_listRg rfl rfl (W.free 80) (prg_1 rfl (W.free 72) (pe_callB (call_lenK (K := K)) rfl (W.free 71) PySem.boot_len (pa_cons (pv 5) pa_nil)))) pa_nil))))
      (pss_one (ps_ret (pe_tup (pa_cons (pe_op (op_addA (K := K)) (pv 4) (pe_tup (pa_cons pe_int pa_nil))) (pa_cons (pe_callTy (call_tupleF (K := K)) rfl (W.free 76) boot_tuple (pa_cons (pe_lc (own := [("_law_at", 7)]) rfl sc_law_stayed_task.nd (pi_listK (K := K) (pv 12)) (blkOk_by (by kernel_rfl)) (fun _ _ _ _ _ => (pg_name (i := 7) sc_law_stayed_task.nd rfl (Or.inl rfl))) (fun _ _ _ _ _ => pts_nil) (fun _ _ _ _ _ => (pe_ix (ix_any (K := K)) (pv 5) (pv 7) (fun _ _ => rfl)))) pa_nil)) (pa_cons (pe_callTy (call_tupleF (K := K)) rfl (W.free 76) boot_tuple (pa_cons (pe_lc (own := [("_law_at", 7)]) rfl sc_law_stayed_task.nd (pi_listK (K := K) (pv 12)) (blkOk_by (by kernel_rfl)) (fun _ _ _ _ _ => (pg_name (i := 7) sc_law_stayed_task.nd rfl (Or.inl rfl))) (fun _ _ _ _ _ => pts_nil) (fun _ _ _ _ _ => (pe_ix (ix_any (K := K)) (pv 6) (pv 7) (fun _ _ => rfl)))) pa_nil)) pa_nil))))))))))))), ?_⟩
  rw [show L2.start ["_law_bag_here", "_law_size", "_law_most", "_law_base", "_law_needs_here", "_law_old", "_law_wish", "_law_at", "_law_item", "_law_full", "_law_value", "_law_more", "_law_order"] [x, y, z] = [some x, some y, some z, none, none, none, none, none, none, none, none, none, none] from rfl]
  obtain ⟨b, k, m, rfl, hb, rfl, rfl, hk, hm, q⟩ := h
  have hmax : ∀ (lo hi d : Nat), lo ≤ hi → ∃ s : Nat, lo ≤ s ∧ (s = lo ∨ s + d = hi) ∧ V.int (if (hi : Int) - (d : Int) > (lo : Int) then (hi : Int) - (d : Int) else (lo : Int)) = nt s := fun lo hi d _ => by
    by_cases h : (hi : Int) - (d : Int) > (lo : Int)
    · refine ⟨hi - d, by omega, .inr (by omega), ?_⟩
      rw [if_pos h]
      show V.int _ = V.int _
      congr 1
      omega
    · exact ⟨lo, Nat.le_refl _, .inl rfl, by rw [if_neg h]⟩
  refine sqI (asI (ifE_cut (fun v H' => ∃ g, v = .ref g ∧ (g = He.ga K "_law_parted_task" ∨ g = He.ga K "_law_even_task") ∧ Same H H') (fun Q' hQ' => ?_) ?_))
  · exact ⟨_, rfl, _, _, rfl, b, 2, rfl, rfl, hb, by decide, by decide, fun H1 r e1 hr => .inl ⟨rfl, _, rfl, tst (fun c => hQ' _ _ ⟨_, rfl, .inl rfl, e1⟩) fun c => hQ' _ _ ⟨_, rfl, .inr rfl, e1⟩⟩⟩
  rintro _ H1 ⟨g, rfl, hgg, e1⟩
  dsimp only [gName, List.set_cons_succ, List.set_cons_zero]
  have mx2 : ∃ s : Nat, 2 ≤ s ∧ s ≤ k + 2 ∧ (s = 2 ∨ s + 3 = k) ∧ V.int (if (k : Int) - 3 > 2 then (k : Int) - 3 else 2) = nt s := by
    by_cases h : (k : Int) - 3 > 2
    · refine ⟨k - 3, by omega, by omega, .inr (by omega), ?_⟩
      rw [if_pos h]
      show V.int _ = V.int _
      congr 1
      omega
    · exact ⟨2, Nat.le_refl _, by omega, .inl rfl, by rw [if_neg h]; rfl⟩
  have mx1 : ∃ s : Nat, s ≤ m + 1 ∧ V.int (if (m : Int) - 1 > 1 then (m : Int) - 1 else 1) = nt s := by
    by_cases h : (m : Int) - 1 > 1
    · refine ⟨m - 1, by omega, ?_⟩
      rw [if_pos h]
      show V.int _ = V.int _
      congr 1
      omega
    · exact ⟨1, by omega, by rw [if_neg h]; rfl⟩
  obtain ⟨s2, hs2a, hs2b, hs2c, es2⟩ := mx2
  obtain ⟨s1, hs1, es1⟩ := mx1
  refine sqI (asI ⟨g, rfl, hgg, _, rfl, _, rfl, _, _, rfl, rfl, _, _, rfl, ?_⟩)
  rw [es2]
  refine ⟨_, rfl, _, _, rfl, rfl, _, _, rfl, ?_⟩
  rw [es1]
  refine ⟨_, _, _, rfl, b, s2, s1, rfl, hb.mono e1, rfl, rfl, by omega, by omega, fun H2 v T e2 hT gT hTl hTn hst => ?_⟩
  obtain ⟨t, y1, y2, y3, rfl, ht, ⟨cn', rfl, hcn⟩, ⟨co, rfl, hco⟩, ⟨cw, rfl, hcw⟩⟩ := hT.open
  refine ⟨t, _, rfl, ht, rfl, _, _, rfl, _, _, rfl, _, _, rfl, rfl, ?_⟩
  have e12 := e1.trans e2
  have hWl := gT.len
  dsimp only [gName, List.set_cons_succ, List.set_cons_zero]
  refine sqI (asI (lcI ⟨_, rfl, co, _, rfl, hco, lcE T.old it (fun _ o => !decide (it o = .non)) (fun i _ => nt i) hco (by omega) (fun i x T' H3 hx e3 hT' Z N hz' hN => ?_) fun D3 H3 hD3 e3 h3 => ?_⟩))
  · exact ⟨T', _, rfl, SqT.of upd_same, rfl, _, _, rfl, _, _, rfl, rfl, rfl, _, rfl, rfl, _, rfl, tst (fun c => ⟨_, rfl, hz' _ c (Same.new hT')⟩) fun c => hN _ c (Same.new hT')⟩
  rw [pos_nt] at h3
  have hPm : ∀ i, i ∈ pos (fun _ o => !decide (it o = .non)) T.old → i < T.old.length := fun i hi => by
    obtain ⟨a, h1, _⟩ := mem_pos.mp hi
    exact (List.getElem?_eq_some_iff.mp h1).1
  have hPl := nodup_len (pos_nodup (fun _ o => !decide (it o = .non)) T.old) hPm
  have rO := fun (r : Nat) (hr : 1 ≤ r) => right_stay (r := r) gT.old rfl (fun _ h => h) hr
  have rW := fun (r : Nat) (hr : 1 ≤ r) => right_stay (r := r) gT.wish hWl hst hr
  generalize pos (fun _ o => !decide (it o = .non)) T.old = P at h3 hPm hPl rO rW
  dsimp only [gName, List.set_cons_succ, List.set_cons_zero]
  refine sqI ⟨_, rfl, cn', _, rfl, .inr (same_t e3 hcn), _, rfl, _, _, rfl, b, 2, rfl, rfl, hb.mono (e12.trans e3), by decide, by decide, fun H4 r e4 hr => .inl ⟨_, _, rfl, rfl, _, _, rfl, ?_⟩⟩
  rw [List.length_map]
  have er2 : V.int (2 + (r : Int)) = nt (2 + r) := by show V.int _ = V.int _; congr 1
  have h4 := e4 _ _ h3
  have hco4 := same_t (e3.trans e4) hco
  have hcw4 := same_t (e3.trans e4) hcw
  have hcn4 := same_t (e3.trans e4) hcn
  have hE4 := e12.trans (e3.trans e4)
  dsimp only [List.set_cons_succ, List.set_cons_zero]
  refine sqI (asI (opI (lcI ⟨_, rfl, D3, rfl, ⟨_, SqL.of h4⟩, mpL P nt (fun i => it (T.old.getD i none)) (SqL.of h4) (by omega) (fun i H5 hi e5 Z hz => ?_) fun D5 H5 hD5 e5 h5 => ?_⟩)))
  · exact ⟨rfl, _, rfl, _, rfl, ixT (same_t e5 hco4) (atI_nat (it_get (hPm i hi))) (hz _ (Same.refl _))⟩
  have em1 : P.map (fun i => it (T.old.getD i none)) = (P.map fun i => T.old.getD i none).map it := by rw [List.map_map]; rfl
  rw [em1] at h5
  refine ⟨_, rfl, (by show 1 ≤ sizeLine; decide), fun p6 hp6 => ⟨_, rfl, p6, 2 + (r : Int), _, rfl, rfl, upd_same, by omega, by omega, by show 1 * (2 + (r : Int)).toNat ≤ 16777216; omega, fun p7 hp7 => ?_⟩⟩
  have erep : (List.replicate (2 + (r : Int)).toNat [nt T.ns.length]).flatten = (List.replicate (2 + r) (some T.ns.length)).map it := by
    rw [show (2 + (r : Int)).toNat = 2 + r by omega]
    exact reps (2 + r) (some T.ns.length)
  have er0 : (List.replicate (2 + (r : Int)).toNat [V.int ((T.ns.length : Nat) : Int)]).flatten = (List.replicate (2 + r) (some T.ns.length)).map it := erep
  rw [er0]
  have t6 := Same.new (o := .lst [V.int ((T.ns.length : Nat) : Int)]) hp6
  have t7 := Same.new (o := .lst ((List.replicate (2 + r) (some T.ns.length)).map it)) hp7
  refine catL ((t6.trans t7) _ _ h5) upd_same (by rw [List.length_map, List.length_map, List.length_map, List.length_replicate]; show _ ≤ 16777216; omega) fun p8 hp8 => ?_
  rw [← List.map_append]
  have t8 := Same.new (o := .lst ((P.map (fun i => T.old.getD i none) ++ List.replicate (2 + r) (some T.ns.length)).map it)) hp8
  have e58 := e5.trans (t6.trans (t7.trans t8))
  have h8 : upd (upd (upd H5 p6 (.lst [V.int ((T.ns.length : Nat) : Int)])) p7 (.lst ((List.replicate (2 + r) (some T.ns.length)).map it))) p8 (.lst ((P.map (fun i => T.old.getD i none) ++ List.replicate (2 + r) (some T.ns.length)).map it)) p8 = some (.lst ((P.map (fun i => T.old.getD i none) ++ List.replicate (2 + r) (some T.ns.length)).map it)) := upd_same
  generalize upd (upd (upd H5 p6 (.lst [V.int ((T.ns.length : Nat) : Int)])) p7 (.lst ((List.replicate (2 + r) (some T.ns.length)).map it))) p8 (.lst ((P.map (fun i => T.old.getD i none) ++ List.replicate (2 + r) (some T.ns.length)).map it)) = H8 at e58 h8 ⊢
  have hl8 := e58 _ _ h4
  dsimp only [gName, List.set_cons_succ, List.set_cons_zero]
  refine sqI (asI (opI (lcI ⟨_, rfl, D3, rfl, ⟨_, SqL.of hl8⟩, mpL P nt (fun i => it (T.wish.getD i none)) (SqL.of hl8) (by omega) (fun i H9 hi e9 Z hz => ?_) fun D9 H9 hD9 e9 h9 => ?_⟩)))
  · exact ⟨rfl, _, rfl, _, rfl, ixT (same_t (e58.trans e9) hcw4) (atI_nat (it_get (by rw [← hWl]; exact hPm i hi))) (hz _ (Same.refl _))⟩
  have em2 : P.map (fun i => it (T.wish.getD i none)) = (P.map fun i => T.wish.getD i none).map it := by rw [List.map_map]; rfl
  rw [em2] at h9
  refine ⟨_, rfl, (by show 1 ≤ sizeLine; decide), fun p10 hp10 => ⟨_, rfl, p10, 2 + (r : Int), _, rfl, rfl, upd_same, by omega, by omega, by show 1 * (2 + (r : Int)).toNat ≤ 16777216; omega, fun p11 hp11 => ?_⟩⟩
  rw [er0]
  have t10 := Same.new (o := .lst [V.int ((T.ns.length : Nat) : Int)]) hp10
  have t11 := Same.new (o := .lst ((List.replicate (2 + r) (some T.ns.length)).map it)) hp11
  refine catL ((t10.trans t11) _ _ h9) upd_same (by rw [List.length_map, List.length_map, List.length_map, List.length_replicate]; show _ ≤ 16777216; omega) fun p12 hp12 => ?_
  rw [← List.map_append]
  have t12 := Same.new (o := .lst ((P.map (fun i => T.wish.getD i none) ++ List.replicate (2 + r) (some T.ns.length)).map it)) hp12
  have e912 := e9.trans (t10.trans (t11.trans t12))
  have h12 : upd (upd (upd H9 p10 (.lst [V.int ((T.ns.length : Nat) : Int)])) p11 (.lst ((List.replicate (2 + r) (some T.ns.length)).map it))) p12 (.lst ((P.map (fun i => T.wish.getD i none) ++ List.replicate (2 + r) (some T.ns.length)).map it)) p12 = some (.lst ((P.map (fun i => T.wish.getD i none) ++ List.replicate (2 + r) (some T.ns.length)).map it)) := upd_same
  generalize upd (upd (upd H9 p10 (.lst [V.int ((T.ns.length : Nat) : Int)])) p11 (.lst ((List.replicate (2 + r) (some T.ns.length)).map it))) p12 (.lst ((P.map (fun i => T.wish.getD i none) ++ List.replicate (2 + r) (some T.ns.length)).map it)) = H12 at e912 h12 ⊢
  have hrO := rO (2 + r) (by omega)
  have hrW := rW (2 + r) (by omega)
  have hAl : (P.map (fun i => T.old.getD i none) ++ List.replicate (2 + r) (some T.ns.length)).length ≤ k + 6 := by rw [List.length_append, List.length_map, List.length_replicate]; omega
  have hBl : (P.map (fun i => T.wish.getD i none) ++ List.replicate (2 + r) (some T.ns.length)).length = (P.map (fun i => T.old.getD i none) ++ List.replicate (2 + r) (some T.ns.length)).length := by rw [List.length_append, List.length_append, List.length_map, List.length_map]
  have hO12 := e912 _ _ h8
  generalize P.map (fun i => T.old.getD i none) ++ List.replicate (2 + r) (some T.ns.length) = A at hO12 hrO hAl hBl
  generalize P.map (fun i => T.wish.getD i none) ++ List.replicate (2 + r) (some T.ns.length) = B at h12 hrW hBl
  have hE12 := hE4.trans (e58.trans e912)
  have hcn12 := same_t (e58.trans e912) hcn4
  dsimp only [gName, List.set_cons_succ, List.set_cons_zero]
  refine sqI (asI ⟨_, rfl, _, rfl, p8, _, rfl, .inl (SqL.of hO12), _, rfl, ?_⟩)
  refine ⟨RgOk.of_le (by decide) (by rw [List.length_map]; omega) (by decide) (by omega), fun p13 hp13 => ?_⟩
  rw [List.length_map, rgV_nt]
  have t13 := Same.new (o := .lst ((List.range A.length).map nt)) hp13
  refine ⟨_, _, rfl, b, p13, _, rfl, rfl, (hb.mono hE12).mono t13, SqL.of upd_same, by rw [List.length_map, List.length_range]; omega, fun H14 p14 ys e14 hp14 h14 hperm => ?_⟩
  obtain ⟨od, rfl, hod⟩ := perm_nts hperm
  have hodl : ∀ i ∈ od, i < A.length := fun i hi => List.mem_range.mp (hod.mem_iff.mp hi)
  have hol : od.length = A.length := by rw [hod.length_eq, List.length_range]
  have e1214 := t13.trans e14
  dsimp only [gName, List.set_cons_succ, List.set_cons_zero]
  refine rtI ⟨_, rfl, (by show 1 ≤ sizeLine; decide), fun p15 hp15 => ?_⟩
  have t15 := Same.new (o := .tup [V.int 1]) hp15
  refine catT (same_t (e1214.trans t15) hcn12) (SqT.of upd_same) (by rw [List.length_map]; show _ + 1 ≤ 16777216; omega) fun H16 c16 e16 h16 => ?_
  have e1216 := e1214.trans (t15.trans e16)
  have h14' := (t15.trans e16) _ _ h14
  refine cb1 (lcI ⟨_, rfl, p14, rfl, ⟨_, SqL.of h14'⟩, mpL od nt (fun i => it (A.getD i none)) (SqL.of h14') (by omega) (fun i H17 hi e17 Z hz => ?_) fun D17 H17 hD17 e17 h17 => ?_⟩)
  · exact ⟨rfl, _, rfl, _, rfl, ixL (SqL.of ((e1216.trans e17) _ _ hO12)) (atI_nat (it_get (hodl i hi))) (hz _ (Same.refl _))⟩
  have em3 : od.map (fun i => it (A.getD i none)) = (od.map fun i => A.getD i none).map it := by rw [List.map_map]; rfl
  rw [em3] at h17
  refine ⟨D17, _, rfl, SqL.of h17, fun p18 o18 hp18 ho18 => ?_⟩
  have t18 := Same.new (o := .frz o18 (.tup ((od.map fun i => A.getD i none).map it))) hp18
  have e1718 := e17.trans t18
  have h14'' := e1718 _ _ h14'
  refine cb1 (lcI ⟨_, rfl, p14, rfl, ⟨_, SqL.of h14''⟩, mpL od nt (fun i => it (B.getD i none)) (SqL.of h14'') (by omega) (fun i H19 hi e19 Z hz => ?_) fun D19 H19 hD19 e19 h19 => ?_⟩)
  · exact ⟨rfl, _, rfl, _, rfl, ixL (SqL.of ((e1216.trans (e1718.trans e19)) _ _ h12)) (atI_nat (it_get (by rw [hBl]; exact hodl i hi))) (hz _ (Same.refl _))⟩
  have em4 : od.map (fun i => it (B.getD i none)) = (od.map fun i => B.getD i none).map it := by rw [List.map_map]; rfl
  rw [em4] at h19
  refine ⟨D19, _, rfl, SqL.of h19, fun p20 o20 hp20 ho20 => ⟨(by show 3 ≤ sizeLine; decide), fun p21 hp21 => ?_⟩⟩
  have t20 := Same.new (o := .frz o20 (.tup ((od.map fun i => B.getD i none).map it))) hp20
  have e1920 := e19.trans t20
  refine q _ _ ⟨T.ns ++ [1], od.map fun i => A.getD i none, od.map fun i => B.getD i none⟩ ((hE12.trans e1216).trans (e1718.trans (e1920.trans (Same.new hp21)))) (tk_new hp21 ⟨c16, rfl, ?_⟩ ⟨p18, o18, rfl, e1920 _ _ upd_same, ho18⟩ ⟨p20, o20, rfl, upd_same, ho20⟩) ⟨fun n hn => ?_, right_perm hrO (order_perm hod), right_perm hrW (order_perm (by rw [hBl]; exact hod)), by simp⟩ ?_ ?_
  · show SqT K _ c16 ((T.ns ++ [1]).map nt)
    rw [List.map_append]
    exact same_t (e1718.trans e1920) h16
  · rcases List.mem_append.mp hn with h | h
    · exact gT.pos n h
    · rw [List.mem_singleton.mp h]; exact Nat.le_refl _
  · show (od.map fun i => A.getD i none).length ≤ _
    rw [List.length_map]
    omega
  · show (T.ns ++ [1]).length ≤ _
    rw [List.length_append]
    show _ + 1 ≤ _
    omega
end Wm
set_option Elab.async false
set_option linter.all false
set_option maxRecDepth 100000
set_option maxHeartbeats 4000000
/-! tasks led -/
namespace Wm
open PySem PySem.Spec PyProof.Rows L2
theorem sc_law_led_task : FnScope ["_law_bag_here", "_law_size", "_law_most", "_law_turns", "_law_needs_here", "_law_old", "_law_layout", "_law_plan", "_law_turn", "_law_stretch", "_law_wish", "_law_at", "_law_kept"] ["_law_bag_here", "_law_size", "_law_most", "_law_turns"] (defScope s_law_led_task) := ⟨rfl, rfl, rfl, by decide +kernel, rfl, by decide +kernel, by decide +kernel⟩
theorem d_law_led_task {P : Program} {w : World} {K : PySem.W.Frag} {mg : Str → Option Value} {base : Heap} (W : Wd K mg base) : DnG P w K mg base 5 "_law_led_task" (sp4 (pLedT K)) := by
  refine W.dnG (st := s_law_led_task) (ps := ["_law_bag_here", "_law_size", "_law_most", "_law_turns"]) 41 41 rfl rfl (fun _ _ _ _ _ _ us hl => match us, hl with | [_, _, _, _], _ => rfl) fun f fd F => ?_
  refine FnG.ofD F sc_law_led_task (fun vs H Q E h => ?_) (fun cdv A outer s H vs Q E hg hr h => ?_)
  · obtain ⟨_, _, _, _, rfl, _⟩ := h; rfl
  have hu := hr.units
  obtain ⟨x, y, z, u, rfl, h⟩ := h
  refine ⟨_, PSs.nox (pss_cons (ps_set (i := 4) sc_law_led_task.nd rfl (Or.inl rfl) (pe_fnG (d_law_fit_needs W) hg (hr.mono (by decide)) rfl (pa_cons (pv 0) (pa_cons (pv 1) (pa_cons (pv 2) pa_nil)))))
      (pss_cons (ps_set (i := 5) sc_law_led_task.nd rfl (Or.inl rfl) (pe_fnG (d_law_spread W) hg (hr.mono (by decide)) rfl (pa_cons (pv 0) (pa_cons (pv 4) (pa_cons (pv 1) pa_nil)))))
      (pss_cons (ps_par (i := 6) (j := 7) rfl sc_law_led_task.nd rfl rfl (by decide) rfl rfl (pa_cons (pv 5) (pa_cons (pe_lst pa_nil) pa_nil)) (by rfl))
      (pss_cons (ps_for PassesOwn.never rfl (pi_range1 rfl (W.free 72) (pa_cons (pv 3) pa_nil)) (pg_name (i := 8) sc_law_led_task.nd rfl (Or.inl rfl)) (pss_cons (ps_set (i := 9) sc_law_led_task.nd rfl (Or.inl rfl) (pe_fnG (d_law_any_stretch W) hg (hr.mono (by decide)) rfl (pa_cons (pv 0) (pa_cons (pv 4) (pa_cons (pv 6) (pa_cons (pe_fnG (d_law_some W) hg (hr.mono (by decide)) rfl (pa_cons (pv 0) (pa_cons (pe_lst (pa_cons pe_int (pa_cons pe_int (pa_cons pe_int (pa_cons pe_int pa_nil))))) pa_nil))) pa_nil))))))
      (pss_one (ps_if (pt_cmpR (op_neA hu (K := K)) (pv 9) (pe_tup pa_nil) (nomark _)) (pss_cons (ps_expr (pe_bmK (K := K) PySem.F.plainAttrs_list PySem.F.slot_list_append PySem.F.type_list_append mt_append (pv 7) (pa_cons (pv 9) pa_nil)))
      (pss_one (ps_set (i := 6) sc_law_led_task.nd rfl (Or.inl rfl) (pe_fnG (d_law_led W) hg (hr.mono (by decide)) rfl (pa_cons (pv 6) (pa_cons (pv 9) pa_nil)))))) pss_nil))))
      (pss_cons (ps_set (i := 10) sc_law_led_task.nd rfl (Or.inl rfl) (pe_callTy call_list_of rfl (W.free 80) boot_list (pa_cons (pv 6) pa_nil)))
      (pss_cons (ps_for PassesOwn.never rfl (pi_range1 rfl (W.free 72) (pa_cons (pe_fnG (d_law_take W) hg (hr.mono (by decide)) rfl (pa_cons (pv 0) (pa_cons (pe_op (op_addA (K := K)) (pe_op op_fdivN (pv 1) pe_int) pe_int) pa_nil))) pa_nil)) (pg_name (i := 8) sc_law_led_task.nd rfl (Or.inl rfl)) (pss_cons (ps_set (i := 11) sc_law_led_task.nd rfl (Or.inl rfl) (pe_fnG (d_law_take W) hg (hr.mono (by decide)) rfl (pa_cons (pv 0) (pa_cons (pv 1) pa_nil))))
      (pss_cons (ps_asg (pe_tup (pa_cons (pe_ix (ix_any (K := K)) (pv 10) (pv 11) (fun _ _ => rfl)) (pa_cons pe_non pa_nil))) (pg_tupK (K := K) (n := 2) rfl (pgs_cons (pg_name (i := 12) sc_law_led_task.nd rfl (Or.inl rfl)) (pgs_cons (pg_sub (pv 10) (pv 11) set_list) pgs_nil))))
      (pss_one (ps_if (pt_not (pt_val (pe_fnG (d_law_is_right W) hg (hr.mono (by decide)) rfl (pa_cons (pv 4) (pa_cons (pv 10) pa_nil))))) (pss_one (ps_asg (pv 12) (pg_sub (pv 10) (pv 11) set_list))) pss_nil)))))
      (pss_one (ps_ret (pe_tup (pa_cons (pe_tup (pa_cons (pv 4) (pa_cons (pv 5) (pa_cons (pe_callTy (call_tupleF (K := K)) rfl (W.free 76) boot_tuple (pa_cons (pv 10) pa_nil)) pa_nil)))) (pa_cons (pe_callTy (call_tupleF (K := K)) rfl (W.free 76) boot_tuple (pa_cons (pv 7) pa_nil)) pa_nil))))))))))), ?_⟩
  rw [show L2.start ["_law_bag_here", "_law_size", "_law_most", "_law_turns", "_law_needs_here", "_law_old", "_law_layout", "_law_plan", "_law_turn", "_law_stretch", "_law_wish", "_law_at", "_law_kept"] [x, y, z, u] = [some x, some y, some z, some u, none, none, none, none, none, none, none, none, none] from rfl]
  obtain ⟨b, k, m, r, rfl, hb, rfl, rfl, rfl, hk, hm, hr, q⟩ := h
  refine sqI (asI ⟨_, rfl, _, rfl, _, rfl, _, _, _, rfl, b, k, m, rfl, hb, rfl, rfl, by omega, by omega, fun H1 v1 ns e1 hns hnl hnsum hnb => ?_⟩)
  dsimp only [gName, List.set_cons_succ, List.set_cons_zero]
  refine sqI (asI ⟨_, rfl, _, rfl, _, rfl, _, _, _, rfl, b, ns, k, rfl, hb.mono e1, hns, rfl, by omega, hnsum, by omega, hnb, fun H2 v2 L e2 hL hrL hLl => ?_⟩)
  dsimp only [gName, List.set_cons_succ, List.set_cons_zero]
  refine sqI ⟨_, rfl, by decide, fun pp hpp => ⟨_, _, rfl, ?_⟩⟩
  have s2 := Same.new (o := .lst []) hpp
  have e12 := e1.trans e2
  have hppH : H pp = none := ne_none_of e12 hpp
  have p2 : upd H2 pp (.lst []) pp = some (.lst []) := upd_same
  have E3 := e12.trans s2
  have n3 := hns.mono (e2.trans s2)
  have L3 := hL.mono s2
  generalize upd H2 pp (.lst []) = H3 at p2 E3 n3 L3
  dsimp only [List.set_cons_succ, List.set_cons_zero]
  refine sqI (frI ⟨_, rfl, frN (by omega) (forRng (fun i σ H' => ∃ (vl : V) (xs : List V) (P : Plan), (∃ o8 o9, σ = [some (.ref b), some (nt k), some (nt m), some (nt r), some v1, some v2, some vl, some (.ref pp), o8, o9, none, none, none]) ∧ Same H H' ∧ Nd K H' v1 ns ∧ LyF K H' v2 L ∧ H' pp = some (.lst xs) ∧ Paired (StT K H') xs P ∧ GoodP ns L P ∧ LyT K H' vl (lastL L P) ∧ P.length ≤ i) ?_ ?_ ?_)⟩)
  · exact ⟨v2, [], [], ⟨_, _, rfl⟩, E3, n3, L3, p2, .nil, trivial, L3.t, Nat.le_refl _⟩
  · rintro i σ H4 hi ⟨vl, xs, P, ⟨o8, o9, rfl⟩, e4, n4, L4, p4, hP4, g4, l4, hPl⟩
    refine sqI (asI ⟨_, rfl, _, rfl, _, rfl, _, rfl, (by show 4 ≤ sizeLine; decide), fun p5 hp5 => ?_⟩)
    have t5 := Same.new (o := .lst [V.int 1, .int 3, .int 6, .int 9]) hp5
    refine ⟨_, _, rfl, b, p5, _, rfl, rfl, (hb.mono e4).mono t5, SqL.of upd_same, by simp, by decide, fun H6 v6 e6 hv6 => ?_⟩
    have hv : ∃ d : Nat, v6 = nt d ∧ d ≤ 9 := by
      simp only [List.mem_cons, List.not_mem_nil, or_false] at hv6
      rcases hv6 with h | h | h | h
      · exact ⟨1, h, by omega⟩
      · exact ⟨3, h, by omega⟩
      · exact ⟨6, h, by omega⟩
      · exact ⟨9, h, by omega⟩
    obtain ⟨d, rfl, hd⟩ := hv
    have e46 := t5.trans e6
    refine ⟨_, _, _, _, rfl, b, ns, lastL L P, d, rfl, (hb.mono e4).mono e46, n4.mono e46, l4.mono e46, rfl, by omega, by omega, by rw [lastL_len]; omega, fun H7 v7 S e7 hS7 hgS hSl => ?_⟩
    have e47 := e46.trans e7
    have hS7' := hS7
    obtain ⟨cS, zS, rfl, hcS, hzS⟩ := hS7
    dsimp only [gName, List.set_cons_succ, List.set_cons_zero]
    refine ifI ⟨_, rfl, by decide, fun p8 hp8 => neNilPT (same_t (Same.new hp8) hcS) (Prs.mono (Same.new hp8) hzS) (SqT.of upd_same) ⟨_, rfl, tst (fun c1 => ?_) fun c1 => ?_⟩⟩
    · have t8 := Same.new (o := .tup []) hp8
      have e48 := e47.trans t8
      have gS := hgS fun z => by rw [z] at c1; cases c1
      have p8' := e48 _ _ p4
      refine sqI ⟨_, rfl, .inl ⟨rfl, _, SqL.of p8'⟩, _, rfl, pp, xs, _, rfl, rfl, p8', by rw [hP4.length]; show _ < 16777216; omega, ?_⟩
      have S9 : StT K (upd (upd H7 p8 (.tup [])) pp (.lst (xs ++ [.ref cS]))) (.ref cS) S := stT_mut p8' (hS7'.mono t8)
      have P9 := pd_snoc S9 (sts_mut (o := .lst (xs ++ [.ref cS])) p8' (sts_mono e48 hP4))
      have l9 : LyT K (upd (upd H7 p8 (.tup [])) pp (.lst (xs ++ [.ref cS]))) vl (lastL L P) := lyT_mut p8' (l4.mono e48)
      have n9 : Nd K (upd (upd H7 p8 (.tup [])) pp (.lst (xs ++ [.ref cS]))) v1 ns := nd_mut p8' (n4.mono e48)
      have L9 : LyF K (upd (upd H7 p8 (.tup [])) pp (.lst (xs ++ [.ref cS]))) v2 L := lyF_mut p8' (L4.mono e48)
      have E9 : Same H (upd (upd H7 p8 (.tup [])) pp (.lst (xs ++ [.ref cS]))) := Same.mut (e4.trans e48) hppH
      have q9 : upd (upd H7 p8 (.tup [])) pp (.lst (xs ++ [.ref cS])) pp = some (.lst (xs ++ [.ref cS])) := upd_same
      generalize upd (upd H7 p8 (.tup [])) pp (.lst (xs ++ [.ref cS])) = H9 at S9 P9 l9 n9 L9 E9 q9 ⊢
      dsimp only [List.set_cons_succ, List.set_cons_zero]
      refine asI ⟨_, rfl, _, rfl, _, _, rfl, lastL L P, S, l9, S9, by rw [lastL_len]; omega, by omega, gS.low, fun H10 v10 e10 hv10 => ?_⟩
      exact ⟨v10, _, P ++ [S], ⟨_, _, rfl⟩, E9.trans e10, n9.mono e10, L9.mono e10, e10 _ _ q9, sts_mono e10 P9, (goodP_snoc _ _ _).mpr ⟨g4, gS⟩, by rw [lastL_snoc]; exact hv10, by rw [List.length_append]; show _ + 1 ≤ _; omega⟩
    · have t8 := Same.new (o := .tup []) hp8
      have e48 := e47.trans t8
      exact ⟨vl, xs, P, ⟨_, _, rfl⟩, e4.trans e48, n4.mono e48, L4.mono e48, e48 _ _ p4, sts_mono e48 hP4, g4, l4.mono e48, by omega⟩
  · rintro σ H4 ⟨vl, xs, P, ⟨o8, o9, rfl⟩, e4, n4, L4, p4, hP4, g4, ⟨cl, rfl, hcl⟩, hPl⟩
    have hrP := right_last hrL g4
    have hlP := lastL_len P L
    dsimp only [List.set_cons_succ, List.set_cons_zero]
    refine sqI (asI ⟨_, rfl, cl, _, rfl, .inr hcl, fun w hw => ?_⟩)
    have t5 := Same.new (o := .lst ((lastL L P).map it)) hw
    have hwH : H w = none := ne_none_of e4 hw
    have hwp : pp ≠ w := ne_of_none p4 hw
    have w5 : upd H4 w (.lst ((lastL L P).map it)) w = some (.lst ((lastL L P).map it)) := upd_same
    have E5 := e4.trans t5
    have n5 := n4.mono t5
    have L5 := L4.mono t5
    have p5 := t5 _ _ p4
    have P5 := sts_mono t5 hP4
    generalize upd H4 w (.lst ((lastL L P).map it)) = H5 at w5 E5 n5 L5 p5 P5 ⊢
    dsimp only [gName, List.set_cons_succ, List.set_cons_zero]
    refine sqI (frI ⟨_, rfl, _, rfl, _, _, rfl, rfl, nz2i, .inl ⟨_, _, rfl, rfl, _, _, rfl, b, k / 2 + 1, rfl, half1 k, hb.mono E5, by omega, by omega, fun H6 d e6 hd => frN (by omega) (forRng (fun i σ H' => ∃ F : Lay, (∃ o8 o11 o12, σ = [some (.ref b), some (nt k), some (nt m), some (nt r), some v1, some v2, some (.ref cl), some (.ref pp), o8, o9, some (.ref w), o11, o12]) ∧ Same H H' ∧ Nd K H' v1 ns ∧ LyF K H' v2 L ∧ H' pp = some (.lst xs) ∧ Paired (StT K H') xs P ∧ H' w = some (.lst (F.map it)) ∧ Right ns F ∧ F.length = k ∧ Sub F (lastL L P)) ?_ ?_ ?_)⟩⟩)
    · exact ⟨lastL L P, ⟨_, _, _, rfl⟩, E5.trans e6, n5.mono e6, L5.mono e6, e6 _ _ p5, sts_mono e6 P5, e6 _ _ w5, hrP, by rw [hlP, hLl], Sub.refl _⟩
    · rintro i σ H7 hi ⟨F, ⟨o8', o11, o12, rfl⟩, e7, n7, L7, p7, P7, w7, hrF, hFl, hsub⟩
      have hk0 : 0 < k := by omega
      refine sqI (asI ⟨_, rfl, _, rfl, _, _, rfl, b, k, rfl, rfl, hb.mono e7, hk0, by omega, fun H8 r8 e8 hr8 => ?_⟩)
      dsimp only [gName, List.set_cons_succ, List.set_cons_zero]
      refine sqI (asI ⟨_, rfl, _, rfl, ixL (SqL.of (e8 _ _ w7)) (atI_nat (it_get (by omega))) ⟨(by show 2 ≤ sizeLine; decide), fun p9 hp9 => ?_⟩⟩)
      have t9 := Same.new (o := .tup [it (F.getD r8 none), .non]) hp9
      have e79 := e8.trans t9
      have w9 := e79 _ _ w7
      refine ⟨p9, _, rfl, SqT.of upd_same, rfl, _, _, rfl, _, _, rfl, _, rfl, _, rfl, w, _, _, r8, rfl, rfl, w9, ix_nt (by rw [List.length_map]; omega), rfl, ?_⟩
      have eset : ((F.map it).set r8 V.non) = (F.set r8 none).map it := by rw [List.map_set]; rfl
      rw [eset]
      have n10 : Nd K (upd (upd H8 p9 (.tup [it (F.getD r8 none), .non])) w (.lst ((F.set r8 none).map it))) v1 ns := nd_mut w9 (n7.mono e79)
      have L10 : LyF K (upd (upd H8 p9 (.tup [it (F.getD r8 none), .non])) w (.lst ((F.set r8 none).map it))) v2 L := lyF_mut w9 (L7.mono e79)
      have P10 : Paired (StT K (upd (upd H8 p9 (.tup [it (F.getD r8 none), .non])) w (.lst ((F.set r8 none).map it)))) xs P := sts_mut w9 (sts_mono e79 P7)
      have E10 : Same H (upd (upd H8 p9 (.tup [it (F.getD r8 none), .non])) w (.lst ((F.set r8 none).map it))) := Same.mut (e7.trans e79) hwH
      have p10 : upd (upd H8 p9 (.tup [it (F.getD r8 none), .non])) w (.lst ((F.set r8 none).map it)) pp = some (.lst xs) := by rw [upd_ne hwp]; exact e79 _ _ p7
      have w10 : upd (upd H8 p9 (.tup [it (F.getD r8 none), .non])) w (.lst ((F.set r8 none).map it)) w = some (.lst ((F.set r8 none).map it)) := upd_same
      generalize upd (upd H8 p9 (.tup [it (F.getD r8 none), .non])) w (.lst ((F.set r8 none).map it)) = H10 at n10 L10 P10 E10 p10 w10 ⊢
      dsimp only [gName, List.set_cons_succ, List.set_cons_zero]
      refine ifI ⟨_, rfl, _, rfl, _, _, rfl, ns, F.set r8 none, n10, ⟨w, rfl, SqL.of w10⟩, by omega, by rw [List.length_set]; omega, fun H11 e11 => ⟨_, rfl, tst (fun c => ?_) fun c => ?_⟩⟩
      · have w11 := e11 _ _ w10
        refine ⟨_, rfl, _, rfl, _, rfl, w, _, _, r8, rfl, rfl, w11, ix_nt (by rw [List.length_map, List.length_set]; omega), F, ⟨_, _, _, rfl⟩, Same.mut (E10.trans e11) hwH, nd_mut w11 (n10.mono e11), lyF_mut w11 (L10.mono e11), by rw [upd_ne hwp]; exact e11 _ _ p10, sts_mut w11 (sts_mono e11 P10), ?_, hrF, hFl, hsub⟩
        rw [upd_same, ← List.map_set, set_back (by omega)]
      · exact ⟨F.set r8 none, ⟨_, _, _, rfl⟩, E10.trans e11, n10.mono e11, L10.mono e11, e11 _ _ p10, sts_mono e11 P10, e11 _ _ w10, right_ok (by simpa using c), by rw [List.length_set]; exact hFl, hsub.set r8⟩
    · rintro σ H7 ⟨F, ⟨o8', o11, o12, rfl⟩, e7, n7, L7, p7, P7, w7, hrF, hFl, hsub⟩
      dsimp only [gName, List.set_cons_succ, List.set_cons_zero]
      refine rtI ⟨_, rfl, _, rfl, _, rfl, w, _, rfl, SqL.of w7, fun p8 o8 hp8 ho8 => ⟨(by show 3 ≤ sizeLine; decide), fun p9 hp9 => ?_⟩⟩
      have t8 := Same.new (o := .frz o8 (.tup (F.map it))) hp8
      have t9 := Same.new (o := .tup [v1, v2, .ref p8]) hp9
      have hT9 : TkT K _ (.ref p9) ⟨ns, L, F⟩ := tk_new hp9 (n7.mono t8) (L7.mono t8) ⟨p8, o8, rfl, upd_same, ho8⟩
      refine ⟨_, rfl, pp, xs, rfl, SqL.of ((t8.trans t9) _ _ p7), fun p10 o10 hp10 ho10 => ⟨(by show 2 ≤ sizeLine; decide), fun p11 hp11 => ?_⟩⟩
      have t10 := Same.new (o := .frz o10 (.tup xs)) hp10
      have t11 := Same.new (o := .tup [V.ref p9, .ref p10]) hp11
      refine q _ _ ⟨ns, L, F⟩ P (e7.trans ((t8.trans t9).trans (t10.trans t11))) ⟨p11, .ref p9, .ref p10, rfl, SqT.of upd_same, hT9.mono (t10.trans t11), ⟨p10, xs, rfl, .inl (.inr ⟨o10, t11 _ _ upd_same⟩), sts_mono ((t8.trans t9).trans (t10.trans t11)) P7⟩⟩ ⟨⟨fun n hn => (hnb n hn).1, hrL, hrF, by show L.length = F.length; rw [hLl, hFl]⟩, g4, hsub.wrong, by omega, by show L.length ≤ _; omega, by show ns.length ≤ _; omega⟩ (by show L.length ≤ _; omega) hnl
end Wm
set_option Elab.async false
set_option linter.all false
set_option maxRecDepth 100000
set_option maxHeartbeats 4000000
/-! tasks and plans together -/
namespace Wm
open PySem PySem.Spec PyProof.Rows L2
theorem sc_law_task : FnScope ["_law_bag_here", "_law_size", "_law_most", "_law_way", "_law_half"] ["_law_bag_here", "_law_size", "_law_most"] (defScope s_law_task) := ⟨rfl, rfl, rfl, by decide +kernel, rfl, by decide +kernel, by decide +kernel⟩
theorem d_law_task {P : Program} {w : World} {K : PySem.W.Frag} {mg : Str → Option Value} {base : Heap} (W : Wd K mg base) : DnG P w K mg base 7 "_law_task" (sp3 (pTask K)) := by
  refine W.dnG (st := s_law_task) (ps := ["_law_bag_here", "_law_size", "_law_most"]) 43 43 rfl rfl (fun _ _ _ _ _ _ us hl => match us, hl with | [_, _, _], _ => rfl) fun f fd F => ?_
  refine FnG.ofD F sc_law_task (fun vs H Q E h => ?_) (fun cdv A outer s H vs Q E hg hr h => ?_)
  · obtain ⟨_, _, _, rfl, _⟩ := h; rfl
  have hu := hr.units
  obtain ⟨x, y, z, rfl, h⟩ := h
  refine ⟨_, PSs.nox (pss_cons (ps_par (i := 3) (j := 1) rfl sc_law_task.nd rfl rfl (by decide) rfl rfl (pa_cons (pe_fnG (d_law_take W) hg (hr.mono (by decide)) rfl (pa_cons (pv 0) (pa_cons pe_int pa_nil))) (pa_cons (pe_ifExp (pt_cmpR (op_eqA hu (K := K)) (pe_fnG (d_law_take W) hg (hr.mono (by decide)) rfl (pa_cons (pv 0) (pa_cons pe_int pa_nil))) pe_int (nomark _)) (pe_fnG (d_law_take W) hg (hr.mono (by decide)) rfl (pa_cons (pv 0) (pa_cons (pe_op (op_addA (K := K)) (pv 1) pe_int) pa_nil))) (pv 1)) pa_nil)) (by rfl))
      (pss_cons (ps_if (pt_cmpR op_lt (pv 3) pe_int (nomark _)) (pss_one (ps_ret (pe_fnG (d_law_any_task W) hg (hr.mono (by decide)) rfl (pa_cons (pv 0) (pa_cons (pv 1) (pa_cons (pv 2) pa_nil)))))) pss_nil)
      (pss_cons (ps_if (pt_cmpR op_lt (pv 3) pe_int (nomark _)) (pss_one (ps_ret (pe_ifExp (pt_cmpR op_lt (pv 3) pe_int (nomark _)) (pe_fnG (d_law_parted_task W) hg (hr.mono (by decide)) rfl (pa_cons (pv 0) (pa_cons (pv 1) (pa_cons (pv 2) pa_nil)))) (pe_fnG (d_law_even_task W) hg (hr.mono (by decide)) rfl (pa_cons (pv 0) (pa_cons (pv 1) (pa_cons (pv 2) pa_nil))))))) pss_nil)
      (pss_cons (ps_if (PW.pt (pw_and (pt_cmpR (op_inA (K := K)) (pv 3) (pe_tup (pa_cons pe_int (pa_cons pe_int pa_nil))) (by rfl)) (pw_and1 (pt_cmpR op_gt (pv 1) pe_int (nomark _))))) (pss_one (ps_ret (pe_fnG (d_law_stayed_task W) hg (hr.mono (by decide)) rfl (pa_cons (pv 0) (pa_cons (pv 1) (pa_cons (pv 2) pa_nil)))))) pss_nil)
      (pss_cons (ps_if (PW.pt (pw_and (pt_cmpR (op_eqA hu (K := K)) (pv 3) pe_int (nomark _)) (pw_and1 (pt_cmpR op_gt (pv 1) pe_int (nomark _))))) (pss_cons (ps_set (i := 4) sc_law_task.nd rfl (Or.inl rfl) (pe_op op_fdivN (pv 1) pe_int))
      (pss_one (ps_ret (pe_fnG (d_law_beside W) hg (hr.mono (by decide)) rfl (pa_cons (pe_fnG (d_law_parted_task W) hg (hr.mono (by decide)) rfl (pa_cons (pv 0) (pa_cons (pv 4) (pa_cons (pe_op op_fdivN (pv 2) pe_int) pa_nil)))) (pa_cons (pe_fnG (d_law_any_task W) hg (hr.mono (by decide)) rfl (pa_cons (pv 0) (pa_cons (pe_op op_sub (pv 1) (pv 4)) (pa_cons (pe_op op_sub (pv 2) (pe_op op_fdivN (pv 2) pe_int)) pa_nil)))) pa_nil)))))) pss_nil)
      (pss_one (ps_ret (pe_ix (ix_any (K := K)) (pe_fnG (d_law_led_task W) hg (hr.mono (by decide)) rfl (pa_cons (pv 0) (pa_cons (pv 1) (pa_cons (pv 2) (pa_cons (pe_fnG (d_law_some W) hg (hr.mono (by decide)) rfl (pa_cons (pv 0) (pa_cons (pe_lst (pa_cons pe_int (pa_cons pe_int (pa_cons pe_int (pa_cons pe_int pa_nil))))) pa_nil))) pa_nil))))) pe_int (fun _ _ => rfl))))))))), ?_⟩
  rw [show L2.start ["_law_bag_here", "_law_size", "_law_most", "_law_way", "_law_half"] [x, y, z] = [some x, some y, some z, none, none] from rfl]
  obtain ⟨b, k0, m, rfl, hb, rfl, rfl, hk0, hm, q⟩ := h
  refine sqI ⟨_, rfl, _, _, rfl, b, 10, rfl, rfl, hb, by decide, by decide, fun H1 wy e1 hwy => ?_⟩
  refine cn1 (ifE_cut (fun v H' => ∃ k : Nat, v = nt k ∧ k ≤ 20 ∧ Same H1 H') (fun Q' hQ' => ?_) ?_)
  · refine ⟨_, rfl, _, _, rfl, b, 6, rfl, rfl, hb.mono e1, by decide, by decide, fun H2 r e2 hr => .inl ⟨rfl, _, rfl, tst (fun c => ?_) fun c => ?_⟩⟩
    · exact ⟨_, rfl, _, rfl, .inl ⟨_, _, rfl, rfl, _, _, rfl, b, k0 + 1, rfl, rfl, (hb.mono e1).mono e2, by omega, by omega, fun H3 r3 e3 hr3 => hQ' _ _ ⟨r3, rfl, by omega, e2.trans e3⟩⟩⟩
    · exact ⟨_, rfl, hQ' _ _ ⟨k0, rfl, hk0, e2⟩⟩
  rintro _ H2 ⟨k, rfl, hk, e2⟩
  have E2 := e1.trans e2
  have hb2 := hb.mono E2
  refine ⟨_, _, rfl, ?_⟩
  dsimp only [List.set_cons_succ, List.set_cons_zero]
  refine sqI (ifI ⟨_, rfl, _, _, rfl, rfl, _, rfl, tst (fun c1 => ?_) fun c1 => ?_⟩)
  · exact ⟨_, rfl, _, rfl, _, rfl, _, _, _, rfl, b, k, m, rfl, hb2, rfl, rfl, by omega, by omega, fun H3 v T e3 hT gT h1 h2 => q _ _ T (E2.trans e3) hT gT (by omega) (by omega)⟩
  refine nxI ?_
  dsimp only
  refine sqI (ifI ⟨_, rfl, _, _, rfl, rfl, _, rfl, tst (fun c2 => ?_) fun c2 => ?_⟩)
  · refine ⟨_, rfl, _, _, rfl, rfl, _, rfl, tst (fun c3 => ?_) fun c3 => ?_⟩
    · exact ⟨_, rfl, _, rfl, _, rfl, _, _, _, rfl, b, k, m, rfl, hb2, rfl, rfl, by omega, by omega, fun H3 v T e3 hT gT h1 h2 _ => q _ _ T (E2.trans e3) hT gT (by omega) (by omega)⟩
    · exact ⟨_, rfl, _, rfl, _, rfl, _, _, _, rfl, b, k, m, rfl, hb2, rfl, rfl, by omega, by omega, fun H3 v T e3 hT gT h1 h2 _ => q _ _ T (E2.trans e3) hT gT (by omega) (by omega)⟩
  refine nxI ?_
  dsimp only
  refine seq_cut (fun σ' H' => σ' = [some (V.ref b), some (nt k), some (nt m), some (nt wy), none] ∧ Same H H') (fun nx hnx => ?_) ?_
  · refine ifI ⟨_, rfl, (by show 2 ≤ sizeLine; decide), fun p3 hp3 => ⟨p3, _, rfl, .inr (SqT.of upd_same), rfl, rfl, _, rfl, ?_⟩⟩
    have t3 := Same.new (o := .tup [V.int 5, .int 9]) hp3
    have E3 := E2.trans t3
    refine tst (fun c3 => ?_) fun c3 => hnx _ _ ⟨rfl, E3⟩
    refine ⟨_, rfl, _, _, rfl, rfl, _, rfl, tst (fun c4 => ?_) fun c4 => hnx _ _ ⟨rfl, E3⟩⟩
    exact ⟨_, rfl, _, rfl, _, rfl, _, _, _, rfl, b, k, m, rfl, hb.mono E3, rfl, rfl, by omega, by omega, fun H3 v T e3 hT gT h1 h2 => q _ _ T (E3.trans e3) hT gT (by omega) (by omega)⟩
  rintro σ H3 ⟨rfl, E3⟩
  refine seq_cut (fun σ' H' => (∃ o4, σ' = [some (V.ref b), some (nt k), some (nt m), some (nt wy), o4]) ∧ Same H H') (fun nx hnx => ?_) ?_
  · refine ifI ⟨_, rfl, .inl ⟨rfl, _, rfl, tst (fun c3 => ?_) fun c3 => hnx _ _ ⟨⟨_, rfl⟩, E3⟩⟩⟩
    refine ⟨_, rfl, _, _, rfl, rfl, _, rfl, tst (fun c4 => ?_) fun c4 => hnx _ _ ⟨⟨_, rfl⟩, E3⟩⟩
    have hk3 : 3 < k := by have := of_decide_eq_true c4; omega
    have ek : V.int (Int.fdiv (k : Int) 2) = nt (k / 2) := by rw [fdiv2]
    have em : V.int (Int.fdiv (m : Int) 2) = nt (m / 2) := by rw [fdiv2]
    refine sqI ⟨_, rfl, _, _, rfl, rfl, nz2i, ?_⟩
    dsimp only
    rw [ek]
    dsimp only [gName, List.set_cons_succ, List.set_cons_zero]
    refine rtI ⟨_, rfl, _, rfl, _, rfl, _, _, rfl, rfl, nz2i, ?_⟩
    dsimp only
    rw [em]
    refine ⟨_, _, _, rfl, b, k / 2, m / 2, rfl, hb.mono E3, rfl, rfl, by omega, by omega, fun H4 v4 T4 e4 hT4 gT4 h1 h2 _ => ?_⟩
    have es1 : V.int ((k : Int) - ((k / 2 : Nat) : Int)) = nt (k - k / 2) := by show V.int _ = V.int _; congr 1; omega
    have es2 : V.int ((m : Int) - Int.fdiv (m : Int) 2) = nt (m - m / 2) := by rw [fdiv2]; show V.int _ = V.int _; congr 1; omega
    refine ⟨_, rfl, _, rfl, _, rfl, _, _, rfl, rfl, _, rfl, _, rfl, _, _, rfl, rfl, nz2i, _, _, rfl, rfl, ?_⟩
    dsimp only
    rw [es1, es2]
    refine ⟨_, _, _, rfl, b, k - k / 2, m - m / 2, rfl, hb.mono (E3.trans e4), rfl, rfl, by omega, by omega, fun H5 v5 T5 e5 hT5 gT5 h3 h4 => ?_⟩
    refine ⟨_, _, rfl, T4, T5, hT4.mono e5, hT5, by omega, by omega, by omega, by omega, gT4.len, gT5.len, fun H6 v6 e6 hT6 => q _ _ _ (E3.trans (e4.trans (e5.trans e6))) hT6 (goodT_beside gT4 gT5) ?_ ?_⟩
    · show (T4.old ++ T5.old.map _).length ≤ _
      rw [List.length_append, List.length_map]
      omega
    · show (T4.ns ++ T5.ns).length ≤ _
      rw [List.length_append]
      omega
  rintro σ H4 ⟨⟨o4, rfl⟩, E4⟩
  refine rtI ⟨_, rfl, _, rfl, _, rfl, _, rfl, (by show 4 ≤ sizeLine; decide), fun p5 hp5 => ?_⟩
  have t5 := Same.new (o := .lst [V.int 1, .int 2, .int 2, .int 4]) hp5
  refine ⟨_, _, rfl, b, p5, _, rfl, rfl, (hb.mono E4).mono t5, SqL.of upd_same, by simp, by decide, fun H6 v6 e6 hv6 => ?_⟩
  have hv : ∃ d : Nat, v6 = nt d ∧ d ≤ 4 := by
    simp only [List.mem_cons, List.not_mem_nil, or_false] at hv6
    rcases hv6 with h | h | h | h
    · exact ⟨1, h, by omega⟩
    · exact ⟨2, h, by omega⟩
    · exact ⟨2, h, by omega⟩
    · exact ⟨4, h, by omega⟩
  obtain ⟨d, rfl, hd⟩ := hv
  refine ⟨_, _, _, _, rfl, b, k, m, d, rfl, (hb.mono E4).mono (t5.trans e6), rfl, rfl, rfl, by omega, by omega, by omega, fun H7 v T P e7 ⟨c, tv, pv, ec, hc, hT, hP⟩ hok h1 h2 => ?_⟩
  subst ec
  exact ixT hc rfl (q _ _ T (E4.trans (t5.trans (e6.trans e7))) hT hok.t (by omega) (by omega))
theorem sc_law_some_plan : FnScope ["_law_bag_here", "_law_size", "_law_most", "_law_turn", "_law_task_here", "_law_plan", "_law_some_here", "_law_made"] ["_law_bag_here", "_law_size", "_law_most"] (defScope s_law_some_plan) := ⟨rfl, rfl, rfl, by decide +kernel, rfl, by decide +kernel, by decide +kernel⟩
theorem d_law_some_plan {P : Program} {w : World} {K : PySem.W.Frag} {mg : Str → Option Value} {base : Heap} (W : Wd K mg base) : DnG P w K mg base 8 "_law_some_plan" (sp3 (pDo K)) := by
  refine W.dnG (st := s_law_some_plan) (ps := ["_law_bag_here", "_law_size", "_law_most"]) 49 49 rfl rfl (fun _ _ _ _ _ _ us hl => match us, hl with | [_, _, _], _ => rfl) fun f fd F => ?_
  refine FnG.ofD F sc_law_some_plan (fun vs H Q E h => ?_) (fun cdv A outer s H vs Q E hg hr h => ?_)
  · obtain ⟨_, _, _, rfl, _⟩ := h; rfl
  have hu := hr.units
  obtain ⟨x, y, z, rfl, h⟩ := h
  refine ⟨_, PSs.nox (pss_cons (ps_for PassesOwn.never rfl (pi_range1 rfl (W.free 72) (pa_cons pe_int pa_nil)) (pg_name (i := 3) sc_law_some_plan.nd rfl (Or.inl rfl)) (pss_cons (ps_asg (pe_fnG (d_law_led_task W) hg (hr.mono (by decide)) rfl (pa_cons (pv 0) (pa_cons (pv 1) (pa_cons (pv 2) (pa_cons (pe_fnG (d_law_some W) hg (hr.mono (by decide)) rfl (pa_cons (pv 0) (pa_cons (pe_lst (pa_cons pe_int (pa_cons pe_int (pa_cons pe_int pa_nil)))) pa_nil))) pa_nil))))) (pg_tupK (K := K) (n := 2) rfl (pgs_cons (pg_name (i := 4) sc_law_some_plan.nd rfl (Or.inl rfl)) (pgs_cons (pg_name (i := 5) sc_law_some_plan.nd rfl (Or.inl rfl)) pgs_nil))))
      (pss_cons (ps_if (pt_cmpR op_gt (pe_fnG (d_law_take W) hg (hr.mono (by decide)) rfl (pa_cons (pv 0) (pa_cons pe_int pa_nil))) pe_int (nomark _)) (pss_cons (ps_set (i := 6) sc_law_some_plan.nd rfl (Or.inl rfl) (pe_ifExp (pt_cmpR (op_eqA hu (K := K)) (pe_fnG (d_law_take W) hg (hr.mono (by decide)) rfl (pa_cons (pv 0) (pa_cons pe_int pa_nil))) pe_int (nomark _)) (pe_fnG (d_law_parted_task W) hg (hr.mono (by decide)) rfl (pa_cons (pv 0) (pa_cons (pv 1) (pa_cons (pv 2) pa_nil)))) (pe_fnG (d_law_task W) hg (hr.mono (by decide)) rfl (pa_cons (pv 0) (pa_cons (pv 1) (pa_cons (pv 2) pa_nil))))))
      (pss_cons (ps_set (i := 7) sc_law_some_plan.nd rfl (Or.inl rfl) (pe_fnG (d_law_made_plan W) hg (hr.mono (by decide)) rfl (pa_cons (pv 0) (pa_cons (pv 6) pa_nil))))
      (pss_one (ps_asg (pe_ifExp (pt_cmpR op_notN (pv 7) pe_non (nomark _)) (pe_tup (pa_cons (pv 6) (pa_cons (pv 7) pa_nil))) (pe_tup (pa_cons (pv 4) (pa_cons (pv 5) pa_nil)))) (pg_tupK (K := K) (n := 2) rfl (pgs_cons (pg_name (i := 4) sc_law_some_plan.nd rfl (Or.inl rfl)) (pgs_cons (pg_name (i := 5) sc_law_some_plan.nd rfl (Or.inl rfl)) pgs_nil))))))) pss_nil)
      (pss_one (ps_if (PW.pt (pw_or (pt_cmpR op_gt (pe_callB (call_lenK (K := K)) rfl (W.free 71) PySem.boot_len (pa_cons (pv 5) pa_nil)) pe_int (nomark _)) (pw_or1 (pt_cmpR (op_eqA hu (K := K)) (pe_fnG (d_law_take W) hg (hr.mono (by decide)) rfl (pa_cons (pv 0) (pa_cons pe_int pa_nil))) pe_int (nomark _))))) (pss_one (ps_ret (pe_tup (pa_cons (pv 4) (pa_cons (pv 5) pa_nil))))) pss_nil)))))
      (pss_one (ps_ret (pe_tup (pa_cons (pv 4) (pa_cons (pv 5) pa_nil)))))), ?_⟩
  rw [show L2.start ["_law_bag_here", "_law_size", "_law_most", "_law_turn", "_law_task_here", "_law_plan", "_law_some_here", "_law_made"] [x, y, z] = [some x, some y, some z, none, none, none, none, none] from rfl]
  obtain ⟨b, k, m, rfl, hb, rfl, rfl, hk, hm, q⟩ := h
  refine sqI (frI (frN (m := 4) (by decide) (forRng (fun i σ H' => (i = 0 ∧ σ = [some (V.ref b), some (nt k), some (nt m), none, none, none, none, none] ∧ Same H H') ∨ ∃ tv pv T P, (∃ o3 o6 o7, σ = [some (V.ref b), some (nt k), some (nt m), o3, some tv, some pv, o6, o7]) ∧ Same H H' ∧ TkT K H' tv T ∧ PlT K H' pv P ∧ DoOk T P) ?_ ?_ ?_)))
  · exact .inl ⟨rfl, rfl, Same.refl _⟩
  · intro i σ H1 hi hP
    have hσ : ∃ o3 o4 o5 o6 o7, σ = [some (V.ref b), some (nt k), some (nt m), o3, o4, o5, o6, o7] ∧ Same H H1 := by
      rcases hP with ⟨_, rfl, e⟩ | ⟨_, _, _, _, ⟨_, _, _, rfl⟩, e, _⟩
      · exact ⟨_, _, _, _, _, rfl, e⟩
      · exact ⟨_, _, _, _, _, rfl, e⟩
    clear hP
    obtain ⟨o3, o4, o5, o6, o7, rfl, e1⟩ := hσ
    dsimp only [gName, List.set_cons_succ, List.set_cons_zero]
    refine sqI (asI ⟨_, rfl, _, rfl, _, rfl, _, rfl, (by show 3 ≤ sizeLine; decide), fun p5 hp5 => ?_⟩)
    have t5 := Same.new (o := .lst [V.int 2, .int 4, .int 6]) hp5
    refine ⟨_, _, rfl, b, p5, _, rfl, rfl, (hb.mono e1).mono t5, SqL.of upd_same, by simp, by decide, fun H6 v6 e6 hv6 => ?_⟩
    have hv : ∃ d : Nat, v6 = nt d ∧ d ≤ 6 := by
      simp only [List.mem_cons, List.not_mem_nil, or_false] at hv6
      rcases hv6 with h | h | h
      · exact ⟨2, h, by omega⟩
      · exact ⟨4, h, by omega⟩
      · exact ⟨6, h, by omega⟩
    obtain ⟨d, rfl, hd⟩ := hv
    refine ⟨_, _, _, _, rfl, b, k, m, d, rfl, (hb.mono e1).mono (t5.trans e6), rfl, rfl, rfl, by omega, by omega, by omega, fun H7 v T P e7 ⟨c, tv, pv, ec, hc, hT, hPl⟩ hok h1 h2 => ?_⟩
    subst ec
    have E7 := e1.trans (t5.trans (e6.trans e7))
    refine ⟨c, _, rfl, hc, rfl, _, _, rfl, _, _, rfl, rfl, ?_⟩
    dsimp only [gName, List.set_cons_succ, List.set_cons_zero]
    refine seq_cut (fun σ' H' => ∃ tv pv T P, (∃ o3 o6 o7, σ' = [some (V.ref b), some (nt k), some (nt m), o3, some tv, some pv, o6, o7]) ∧ Same H H' ∧ TkT K H' tv T ∧ PlT K H' pv P ∧ DoOk T P) (fun nx hnx => ?_) ?_
    · refine ifI ⟨_, rfl, _, _, rfl, b, 4, rfl, rfl, hb.mono E7, by decide, by decide, fun H8 r8 e8 hr8 => ⟨_, _, rfl, rfl, _, rfl, tst (fun c1 => ?_) fun c1 => ?_⟩⟩
      · refine sqI (asI (ifE_cut (fun v H' => ∃ T', TkT K H' v T' ∧ GoodT T' ∧ T'.old.length ≤ 60 ∧ T'.ns.length ≤ 60 ∧ Same H8 H') (fun Q' hQ' => ?_) ?_))
        · refine ⟨_, rfl, _, _, rfl, b, 3, rfl, rfl, (hb.mono E7).mono e8, by decide, by decide, fun H9 r9 e9 hr9 => .inl ⟨rfl, _, rfl, tst (fun c2 => ?_) fun c2 => ?_⟩⟩
          · exact ⟨_, rfl, _, rfl, _, rfl, _, _, _, rfl, b, k, m, rfl, (hb.mono E7).mono (e8.trans e9), rfl, rfl, by omega, by omega, fun H10 v T' e10 hT' gT' h3 h4 _ => hQ' _ _ ⟨T', hT', gT', by omega, by omega, e9.trans e10⟩⟩
          · exact ⟨_, rfl, _, rfl, _, rfl, _, _, _, rfl, b, k, m, rfl, (hb.mono E7).mono (e8.trans e9), rfl, rfl, by omega, by omega, fun H10 v T' e10 hT' gT' h3 h4 => hQ' _ _ ⟨T', hT', gT', h3, h4, e9.trans e10⟩⟩
        rintro v9 H9 ⟨T', hT', gT', h3, h4, e9⟩
        have E9 := E7.trans (e8.trans e9)
        dsimp only [gName, List.set_cons_succ, List.set_cons_zero]
        refine sqI (asI ⟨_, rfl, _, rfl, _, _, rfl, b, T', rfl, hb.mono E9, hT', gT', by omega, by omega, fun H10 v10 e10 hv10 => ?_⟩)
        have E10 := E9.trans e10
        have hT10 := hT'.mono e10
        have hTo := hT.mono (e8.trans (e9.trans e10))
        have hPo := hPl.mono (e8.trans (e9.trans e10))
        dsimp only [gName, List.set_cons_succ, List.set_cons_zero]
        refine asI (ifE_cut (fun v H' => ∃ c tv pv T P, v = .ref c ∧ SqT K H' c [tv, pv] ∧ TkT K H' tv T ∧ PlT K H' pv P ∧ DoOk T P ∧ Same H10 H') (fun Q' hQ' => ?_) ?_)
        · rcases hv10 with rfl | ⟨P', hP', g1, g2, g3⟩
          · refine ⟨_, rfl, rfl, _, rfl, iteF ?_⟩
            exact ⟨_, rfl, _, rfl, (by show 2 ≤ sizeLine; decide), fun p hp => hQ' _ _ ⟨p, tv, pv, T, P, rfl, SqT.of upd_same, hTo.mono (Same.new hp), hPo.mono (Same.new hp), hok, Same.new hp⟩⟩
          · have hP'' := hP'
            obtain ⟨cP, xsP, rfl, _, _⟩ := hP''
            refine ⟨_, rfl, rfl, _, rfl, iteT ?_⟩
            exact ⟨_, rfl, _, rfl, (by show 2 ≤ sizeLine; decide), fun p hp => hQ' _ _ ⟨p, v9, .ref cP, T', P', rfl, SqT.of upd_same, hT10.mono (Same.new hp), hP'.mono (Same.new hp), ⟨gT', g1, g2, g3, h3, h4⟩, Same.new hp⟩⟩
        rintro _ H11 ⟨c11, tv11, pv11, T11, P11, rfl, hc11, hT11, hP11, hok11, e11⟩
        refine ⟨c11, _, rfl, hc11, rfl, _, _, rfl, _, _, rfl, rfl, ?_⟩
        exact hnx _ _ ⟨tv11, pv11, T11, P11, ⟨_, _, _, rfl⟩, E10.trans e11, hT11, hP11, hok11⟩
      · exact hnx _ _ ⟨tv, pv, T, P, ⟨_, _, _, rfl⟩, E7.trans e8, hT.mono e8, hPl.mono e8, hok⟩
    · rintro σ H8 ⟨tv8, pv8, T8, P8, ⟨o3', o6', o7', rfl⟩, E8, hT8, hP8, hok8⟩
      have hP8' := hP8
      obtain ⟨cP, xsP, rfl, hcP, _⟩ := hP8'
      have ret : ∀ H9, Same H8 H9 → (2 : Nat) ≤ sizeLine ∧ ∀ p, H9 p = none → Q (.ref p) (upd H9 p (.tup [tv8, .ref cP])) := fun H9 e9 => ⟨by decide, fun p hp => q _ _ T8 P8 ((E8.trans e9).trans (Same.new hp)) ⟨p, tv8, .ref cP, rfl, SqT.of upd_same, hT8.mono (e9.trans (Same.new hp)), hP8.mono (e9.trans (Same.new hp))⟩ hok8⟩
      refine ifI ⟨_, rfl, cP, _, rfl, .inr hcP, _, _, rfl, rfl, _, rfl, tst (fun c1 => ?_) fun c1 => ?_⟩
      · exact tst_t rfl ⟨_, rfl, _, rfl, ret _ (Same.refl _)⟩
      · refine ⟨_, rfl, _, _, rfl, b, 12, rfl, rfl, hb.mono E8, by decide, by decide, fun H9 r9 e9 hr9 => .inl ⟨rfl, _, rfl, tst (fun c2 => ?_) fun c2 => ?_⟩⟩
        · exact ⟨_, rfl, _, rfl, ret _ e9⟩
        · exact .inr ⟨tv8, .ref cP, T8, P8, ⟨_, _, _, rfl⟩, E8.trans e9, hT8.mono e9, hP8.mono e9, hok8⟩
  · intro σ H1 hP
    rcases hP with ⟨h, _⟩ | ⟨tv, pv, T, P, ⟨o3, o6, o7, rfl⟩, e1, hT, hPl, hok⟩
    · exact absurd h (by decide)
    · dsimp only [List.set_cons_succ, List.set_cons_zero]
      exact rtI ⟨_, rfl, _, rfl, (by show 2 ≤ sizeLine; decide), fun p hp => q _ _ T P (e1.trans (Same.new hp)) ⟨p, tv, pv, rfl, SqT.of upd_same, hT.mono (Same.new hp), hPl.mono (Same.new hp)⟩ hok⟩
theorem sc_law_safe_doing : FnScope ["_law_bag_here", "_law_size", "_law_most", "_law_task_here", "_law_plan"] ["_law_bag_here", "_law_size", "_law_most"] (defScope s_law_safe_doing) := ⟨rfl, rfl, rfl, by decide +kernel, rfl, by decide +kernel, by decide +kernel⟩
theorem d_law_safe_doing {P : Program} {w : World} {K : PySem.W.Frag} {mg : Str → Option Value} {base : Heap} (W : Wd K mg base) : DnG P w K mg base 9 "_law_safe_doing" (sp3 (pDo K)) := by
  refine W.dnG (st := s_law_safe_doing) (ps := ["_law_bag_here", "_law_size", "_law_most"]) 50 50 rfl rfl (fun _ _ _ _ _ _ us hl => match us, hl with | [_, _, _], _ => rfl) fun f fd F => ?_
  refine FnG.ofD F sc_law_safe_doing (fun vs H Q E h => ?_) (fun cdv A outer s H vs Q E hg hr h => ?_)
  · obtain ⟨_, _, _, rfl, _⟩ := h; rfl
  have hu := hr.units
  obtain ⟨x, y, z, rfl, h⟩ := h
  refine ⟨_, PSs.nox (pss_cons (ps_asg (pe_fnG (d_law_some_plan W) hg (hr.mono (by decide)) rfl (pa_cons (pv 0) (pa_cons (pv 1) (pa_cons (pv 2) pa_nil)))) (pg_tupK (K := K) (n := 2) rfl (pgs_cons (pg_name (i := 3) sc_law_safe_doing.nd rfl (Or.inl rfl)) (pgs_cons (pg_name (i := 4) sc_law_safe_doing.nd rfl (Or.inl rfl)) pgs_nil))))
      (pss_one (ps_ret (pe_tup (pa_cons (pv 3) (pa_cons (pe_ifExp (pt_cmpR (op_eqA hu (K := K)) (pe_fnG (d_law_take W) hg (hr.mono (by decide)) rfl (pa_cons (pv 0) (pa_cons pe_int pa_nil))) pe_int (nomark _)) (pe_fnG (d_law_joined_plan W) hg (hr.mono (by decide)) rfl (pa_cons (pv 0) (pa_cons (pv 3) (pa_cons (pv 4) pa_nil)))) (pv 4)) pa_nil)))))), ?_⟩
  rw [show L2.start ["_law_bag_here", "_law_size", "_law_most", "_law_task_here", "_law_plan"] [x, y, z] = [some x, some y, some z, none, none] from rfl]
  obtain ⟨b, k, m, rfl, hb, rfl, rfl, hk, hm, q⟩ := h
  refine sqI (asI ⟨_, rfl, _, rfl, _, rfl, _, _, _, rfl, b, k, m, rfl, hb, rfl, rfl, hk, hm, fun H1 v T P e1 ⟨c, tv, pv, ec, hc, hT, hP⟩ hok => ?_⟩)
  subst ec
  refine ⟨c, _, rfl, hc, rfl, _, _, rfl, _, _, rfl, rfl, ?_⟩
  dsimp only [gName, List.set_cons_succ, List.set_cons_zero]
  refine rtI ⟨_, rfl, cn1 (ifE_cut (fun v H' => ∃ P', PlT K H' v P' ∧ DoOk T P' ∧ Same H1 H') (fun Q' hQ' => ?_) ?_)⟩
  · refine ⟨_, rfl, _, _, rfl, b, 2, rfl, rfl, hb.mono e1, by decide, by decide, fun H2 r e2 hr => .inl ⟨rfl, _, rfl, tst (fun c => ?_) fun c => ?_⟩⟩
    · refine ⟨_, rfl, _, rfl, _, rfl, _, _, _, rfl, b, T, P, rfl, (hb.mono e1).mono e2, hT.mono e2, hP.mono e2, hok.p, by have := hok.lo; omega, by have := hok.ln; omega, hok.lp, fun H3 v3 P' e3 hP' g1 g2 g3 => hQ' _ _ ⟨P', hP', ⟨hok.t, g1, by rw [g2]; exact hok.w, by have := hok.lp; omega, hok.lo, hok.ln⟩, e2.trans e3⟩⟩
    · exact ⟨_, rfl, hQ' _ _ ⟨P, hP.mono e2, hok, e2⟩⟩
  rintro v2 H2 ⟨P', hP', hok', e2⟩
  exact ⟨(by show 2 ≤ sizeLine; decide), fun p hp => q _ _ T P' (e1.trans (e2.trans (Same.new hp))) ⟨p, tv, v2, rfl, SqT.of upd_same, (hT.mono e2).mono (Same.new hp), hP'.mono (Same.new hp)⟩ hok'⟩
end Wm
set_option Elab.async false
set_option linter.all false
set_option maxRecDepth 100000
set_option maxHeartbeats 4000000
/-! the program's checks -/
namespace Wm
open PySem PySem.Spec PyProof.Rows L2
theorem sc_is_integer : FnScope ["thing"] ["thing"] (defScope s_is_integer) := ⟨rfl, rfl, rfl, by decide +kernel, rfl, by decide +kernel, by decide +kernel⟩
theorem d_is_integer {P : Program} {w : World} {K : PySem.W.Frag} {mg : Str → Option Value} {base : Heap} (W : Wd K mg base) : Dn P w K mg base 1 "is_integer" (sp1 pIsInt) := by
  refine W.dn (st := s_is_integer) (ps := ["thing"]) 0 0 rfl rfl (fun _ _ _ _ _ _ us hl => match us, hl with | [_], _ => rfl) fun f fd F => ?_
  refine FunD.ok F sc_is_integer (fun vs H Q E h => ?_) (fun cdv A outer s H vs Q E hr h => ?_)
  · obtain ⟨_, rfl, _⟩ := h; rfl
  obtain ⟨x, rfl, h⟩ := h
  refine ⟨_, PSs.nox (pss_one (ps_ret (pe_and (pe_callB call_isi rfl (W.free 73) boot_isinstance (pa_cons (pv 0) (pa_cons (pe_bltn (v := .ty "int") rfl (W.free 74) boot_int rfl) pa_nil))) (pe_one (pe_not (pe_callB call_isi rfl (W.free 73) boot_isinstance (pa_cons (pv 0) (pa_cons (pe_bltn (v := .ty "bool") rfl (W.free 75) boot_bool rfl) pa_nil)))))))), ?_⟩
  rw [show L2.start ["thing"] [x] = [some x] from rfl]
  obtain ⟨i, rfl, q⟩ := h
  exact rtI ⟨_, rfl, _, _, _, _, true, rfl, .ty _, .base (.int i), kII, true, rfl, tst_t rfl ⟨_, rfl, _, _, _, _, false, rfl, .ty _, .base (.int i), kIB, false, rfl, q⟩⟩
theorem sc_is_below : FnScope ["many", "thing"] ["many", "thing"] (defScope s_is_below) := ⟨rfl, rfl, rfl, by decide +kernel, rfl, by decide +kernel, by decide +kernel⟩
theorem d_is_below {P : Program} {w : World} {K : PySem.W.Frag} {mg : Str → Option Value} {base : Heap} (W : Wd K mg base) : Dn P w K mg base 2 "is_below" (sp2 pIsBelow) := by
  refine W.dn (st := s_is_below) (ps := ["many", "thing"]) 1 1 rfl rfl (fun _ _ _ _ _ _ us hl => match us, hl with | [_, _], _ => rfl) fun f fd F => ?_
  refine FunD.ok F sc_is_below (fun vs H Q E h => ?_) (fun cdv A outer s H vs Q E hr h => ?_)
  · obtain ⟨_, _, rfl, _⟩ := h; rfl
  obtain ⟨x, y, rfl, h⟩ := h
  refine ⟨_, PSs.nox (pss_one (ps_ret (pe_and (pe_fn (d_is_integer W) (hr.mono (by decide)) rfl (pa_cons (pv 1) pa_nil)) (pe_one (pe_chain op_le op_lt pe_int (pv 1) (pv 0)))))), ?_⟩
  rw [show L2.start ["many", "thing"] [x, y] = [some x, some y] from rfl]
  obtain ⟨n, i, rfl, rfl, hi, q⟩ := h
  refine rtI ⟨_, rfl, _, rfl, _, rfl, true, rfl, tst_t rfl ⟨_, rfl, _, _, rfl, rfl, true, ?_, tst_t rfl ⟨_, rfl, _, _, rfl, rfl, ?_⟩⟩⟩
  · dsimp only
    rw [decide_eq_true (show (0 : Int) ≤ (i : Int) by omega)]
  · dsimp only
    rw [decide_eq_true (show (i : Int) < (n : Int) by omega)]; exact q
theorem sc_is_needs : FnScope ["thing", "need"] ["thing"] (defScope s_is_needs) := ⟨rfl, rfl, rfl, by decide +kernel, rfl, by decide +kernel, by decide +kernel⟩
theorem d_is_needs {P : Program} {w : World} {K : PySem.W.Frag} {mg : Str → Option Value} {base : Heap} (W : Wd K mg base) : Dn P w K mg base 2 "is_needs" (sp1 (pYes1 K (Nd K) gNeeds)) := by
  refine W.dn (st := s_is_needs) (ps := ["thing"]) 2 2 rfl rfl (fun _ _ _ _ _ _ us hl => match us, hl with | [_], _ => rfl) fun f fd F => ?_
  refine FunD.ok F sc_is_needs (fun vs H Q E h => ?_) (fun cdv A outer s H vs Q E hr h => ?_)
  · obtain ⟨_, rfl, _⟩ := h; rfl
  obtain ⟨x, rfl, h⟩ := h
  refine ⟨_, PSs.nox (pss_one (ps_ret (pe_and (pe_callB call_isi rfl (W.free 73) boot_isinstance (pa_cons (pv 0) (pa_cons (pe_bltn (v := .ty "tuple") rfl (W.free 76) boot_tuple rfl) pa_nil))) (pe_one (pe_callB (cr_allK (K := K) rfl) rfl (W.free 77) boot_all (pa_cons (pe_lc (own := [("need", 1)]) rfl sc_is_needs.nd (pi_tupK (K := K) (pv 0)) (blkOk_by (by kernel_rfl)) (fun _ _ _ _ _ => (pg_name (i := 1) sc_is_needs.nd rfl (Or.inl rfl))) (fun _ _ _ _ _ => pts_nil) (fun _ _ _ _ _ => (pe_and (pe_fn (d_is_integer W) (hr.mono (by decide)) rfl (pa_cons (pv 1) pa_nil)) (pe_one (pe_cmpR op_ge (pv 1) pe_int (nomark _)))))) pa_nil)))))), ?_⟩
  rw [show L2.start ["thing", "need"] [x] = [some x, none] from rfl]
  obtain ⟨ns, ⟨c, rfl, hc⟩, ⟨hl, hn⟩, q⟩ := h
  refine rtI ⟨_, rfl, _, _, _, _, true, rfl, .ty _, tyx_tup hc, kTT, true, rfl, tst_t rfl (cb1 (lcI ⟨_, rfl, c, rfl, ⟨_, hc⟩, mpT ns nt (fun _ => .bl true) hc (by omega) (fun n H1 hm e1 Z hz => ?_) fun D H1 hD e1 h1 => rAllT ns h1 (q _ e1)⟩))⟩
  refine ⟨rfl, _, rfl, _, rfl, _, rfl, true, rfl, tst_t rfl ⟨_, rfl, _, _, rfl, rfl, ?_⟩⟩
  dsimp only
  rw [decide_eq_true (show (1 : Int) ≤ (n : Int) by have := hn n hm; omega)]
  exact hz _ (Same.refl _)
theorem sc_is_layout : FnScope ["needs", "thing", "item"] ["needs", "thing"] (defScope s_is_layout) := ⟨rfl, rfl, rfl, by decide +kernel, rfl, by decide +kernel, by decide +kernel⟩
theorem d_is_layout {P : Program} {w : World} {K : PySem.W.Frag} {mg : Str → Option Value} {base : Heap} (W : Wd K mg base) : Dn P w K mg base 3 "is_layout" (sp2 (pIsLayout K)) := by
  refine W.dn (st := s_is_layout) (ps := ["needs", "thing"]) 3 3 rfl rfl (fun _ _ _ _ _ _ us hl => match us, hl with | [_, _], _ => rfl) fun f fd F => ?_
  refine FunD.ok F sc_is_layout (fun vs H Q E h => ?_) (fun cdv A outer s H vs Q E hr h => ?_)
  · obtain ⟨_, _, rfl, _⟩ := h; rfl
  obtain ⟨x, y, rfl, h⟩ := h
  refine ⟨_, PSs.nox (pss_one (ps_ret (pe_and (pe_callB call_isi rfl (W.free 73) boot_isinstance (pa_cons (pv 1) (pa_cons (pe_bltn (v := .ty "tuple") rfl (W.free 76) boot_tuple rfl) pa_nil))) (pe_one (pe_callB (cr_allK (K := K) rfl) rfl (W.free 77) boot_all (pa_cons (pe_lc (own := [("item", 2)]) rfl sc_is_layout.nd (pi_tupK (K := K) (pv 1)) (blkOk_by (by kernel_rfl)) (fun _ _ _ _ _ => (pg_name (i := 2) sc_is_layout.nd rfl (Or.inl rfl))) (fun _ _ _ _ _ => pts_nil) (fun _ _ _ _ _ => (pe_or (pe_cmpR op_isN (pv 2) pe_non (nomark _)) (pe_one (pe_fn (d_is_below W) (hr.mono (by decide)) rfl (pa_cons (pe_callB (call_lenK (K := K)) rfl (W.free 71) PySem.boot_len (pa_cons (pv 0) pa_nil)) (pa_cons (pv 2) pa_nil))))))) pa_nil)))))), ?_⟩
  rw [show L2.start ["needs", "thing", "item"] [x, y] = [some x, some y, none] from rfl]
  obtain ⟨ns, L, ⟨c, rfl, hc⟩, ⟨a, rfl, ha⟩, hl, hv, q⟩ := h
  refine rtI ⟨_, rfl, _, _, _, _, true, rfl, .ty _, tyx_tup ha, kTT, true, rfl, tst_t rfl (cb1 (lcI ⟨_, rfl, a, rfl, ⟨_, ha⟩, mpT L it (fun _ => .bl true) ha (by omega) (fun o H1 hm e1 Z hz => ?_) fun D H1 hD e1 h1 => rAllT L h1 (q _ e1)⟩))⟩
  refine ⟨rfl, ?_⟩
  cases o with
  | none => exact ⟨_, rfl, rfl, true, rfl, tst_t rfl (hz _ (Same.refl _))⟩
  | some v =>
    refine ⟨_, rfl, rfl, false, rfl, tst_f rfl ⟨_, rfl, c, _, rfl, .inr (same_t e1 hc), _, rfl, _, _, rfl, ns.length, v, ?_, rfl, hv v hm, hz _ (Same.refl _)⟩⟩
    rw [List.length_map]
theorem sc_is_right : FnScope ["needs", "thing", "value", "need"] ["needs", "thing"] (defScope s_is_right) := ⟨rfl, rfl, rfl, by decide +kernel, rfl, by decide +kernel, by decide +kernel⟩
theorem d_is_right {P : Program} {w : World} {K : PySem.W.Frag} {mg : Str → Option Value} {base : Heap} (W : Wd K mg base) : Dn P w K mg base 4 "is_right" (sp2 (pIsRightP K)) := by
  refine W.dn (st := s_is_right) (ps := ["needs", "thing"]) 4 4 rfl rfl (fun _ _ _ _ _ _ us hl => match us, hl with | [_, _], _ => rfl) fun f fd F => ?_
  refine FunD.ok F sc_is_right (fun vs H Q E h => ?_) (fun cdv A outer s H vs Q E hr h => ?_)
  · obtain ⟨_, _, rfl, _⟩ := h; rfl
  obtain ⟨x, y, rfl, h⟩ := h
  refine ⟨_, PSs.nox (pss_one (ps_ret (pe_and (pe_fn (d_is_layout W) (hr.mono (by decide)) rfl (pa_cons (pv 0) (pa_cons (pv 1) pa_nil))) (pe_one (pe_callB (cr_allK (K := K) rfl) rfl (W.free 77) boot_all (pa_cons (pe_lc (own := [("value", 2), ("need", 3)]) rfl sc_is_right.nd (pi_enumT rfl (W.free 78) (pa_cons (pv 0) pa_nil)) (blkOk_by (by kernel_rfl)) (fun _ _ _ _ _ => (pg_tupK (K := K) (n := 2) rfl (pgs_cons (pg_name (i := 2) sc_is_right.nd rfl (Or.inl rfl)) (pgs_cons (pg_name (i := 3) sc_is_right.nd rfl (Or.inl rfl)) pgs_nil)))) (fun _ _ _ _ _ => pts_nil) (fun _ _ _ _ _ => (pe_cmpR op_ge (pe_bmT (K := K) PySem.F.plainAttrs_tuple PySem.F.slot_tuple_count PySem.F.type_tuple_count (mt_tcountK (K := K)) (pv 1) (pa_cons (pv 2) pa_nil)) (pv 3) (nomark _)))) pa_nil)))))), ?_⟩
  rw [show L2.start ["needs", "thing", "value", "need"] [x, y] = [some x, some y, none, none] from rfl]
  obtain ⟨ns, L, hN, hF, hn, hl, hr, q⟩ := h
  obtain ⟨c, rfl, hc⟩ := hN
  obtain ⟨a, oa, rfl, ha, hoa⟩ := hF
  refine rtI ⟨_, rfl, _, rfl, _, _, rfl, ns, L, ⟨c, rfl, hc⟩, ⟨a, rfl, .inl (.inr ⟨oa, ha⟩)⟩, by omega, hr.val, fun H1 e1 => ⟨true, rfl, tst_t rfl (cb1 (lcI ⟨_, rfl, c, _, rfl, same_t e1 hc, mpE ns nt (fun _ _ => .bl true) (same_t e1 hc) (by omega) (fun v n T H2 hx e2 hT Z hz => ?_) fun D H2 hD e2 h2 => rAllT ns.zipIdx h2 (q _ (e1.trans e2))⟩))⟩⟩
  have e02 := (e1.trans e2).trans (Same.new (o := .tup [V.int (v : Nat), nt n]) hT)
  refine ⟨T, _, rfl, SqT.of upd_same, rfl, _, _, rfl, _, _, rfl, rfl, rfl, _, rfl, ⟨a, oa, _, rfl, e02 _ _ ha, hoa⟩, _, rfl, a, L.map it, _, rfl, rfl, .inl (.inr ⟨oa, e02 _ _ ha⟩), rfl, its_flat L, _, rfl, _, _, rfl, rfl, ?_⟩
  have h9 : (L.map it).countP (fun z => eqV z (V.int (v : Nat))) = cn L v := cnt_it v L
  dsimp only
  rw [h9, decide_eq_true (show (n : Int) ≤ ((cn L v : Nat) : Int) by have := hr.many v n hx; omega)]
  exact hz _ (Same.new hT)
theorem sc_is_task : FnScope ["thing", "needs", "old", "wish"] ["thing"] (defScope s_is_task) := ⟨rfl, rfl, rfl, by decide +kernel, rfl, by decide +kernel, by decide +kernel⟩
theorem d_is_task {P : Program} {w : World} {K : PySem.W.Frag} {mg : Str → Option Value} {base : Heap} (W : Wd K mg base) : Dn P w K mg base 5 "is_task" (sp1 (pYes1 K (TkT K) gTask)) := by
  refine W.dn (st := s_is_task) (ps := ["thing"]) 5 5 rfl rfl (fun _ _ _ _ _ _ us hl => match us, hl with | [_], _ => rfl) fun f fd F => ?_
  refine FunD.ok F sc_is_task (fun vs H Q E h => ?_) (fun cdv A outer s H vs Q E hr h => ?_)
  · obtain ⟨_, rfl, _⟩ := h; rfl
  have hu := hr.units
  obtain ⟨x, rfl, h⟩ := h
  refine ⟨_, PSs.nox (pss_cons (ps_if (PW.pt (pw_or (pt_not (pt_val (pe_callB call_isi rfl (W.free 73) boot_isinstance (pa_cons (pv 0) (pa_cons (pe_bltn (v := .ty "tuple") rfl (W.free 76) boot_tuple rfl) pa_nil))))) (pw_or (pt_cmpR (op_neA hu (K := K)) (pe_callB (call_lenK (K := K)) rfl (W.free 71) PySem.boot_len (pa_cons (pv 0) pa_nil)) pe_int (nomark _)) (pw_or1 (pt_not (pt_val (pe_fn (d_is_needs W) (hr.mono (by decide)) rfl (pa_cons (pe_ix (ix_any (K := K)) (pv 0) pe_int (fun _ _ => rfl)) pa_nil)))))))) (pss_one (ps_ret pe_bl)) pss_nil)
      (pss_cons (ps_asg (pv 0) (pg_tupK (K := K) (n := 3) rfl (pgs_cons (pg_name (i := 1) sc_is_task.nd rfl (Or.inl rfl)) (pgs_cons (pg_name (i := 2) sc_is_task.nd rfl (Or.inl rfl)) (pgs_cons (pg_name (i := 3) sc_is_task.nd rfl (Or.inl rfl)) pgs_nil)))))
      (pss_one (ps_ret (pe_and (pe_fn (d_is_right W) (hr.mono (by decide)) rfl (pa_cons (pv 1) (pa_cons (pv 2) pa_nil))) (pe_and (pe_fn (d_is_right W) (hr.mono (by decide)) rfl (pa_cons (pv 1) (pa_cons (pv 3) pa_nil))) (pe_one (pe_cmpR (op_eqA hu (K := K)) (pe_callB (call_lenK (K := K)) rfl (W.free 71) PySem.boot_len (pa_cons (pv 2) pa_nil)) (pe_callB (call_lenK (K := K)) rfl (W.free 71) PySem.boot_len (pa_cons (pv 3) pa_nil)) (nomark _))))))))), ?_⟩
  rw [show L2.start ["thing", "needs", "old", "wish"] [x] = [some x, none, none, none] from rfl]
  obtain ⟨T, ⟨t, a, b, d, rfl, ht, hN, hO, hW⟩, ⟨gT, l1, l2⟩, q⟩ := h
  have hWl := gT.len
  refine sqI (ifI ⟨_, rfl, _, _, _, _, true, rfl, .ty _, tyx_tup ht, kTT, true, rfl, tst_f rfl ⟨_, rfl, t, _, rfl, .inr ht, .inl ⟨rfl, false, rfl, tst_f rfl ⟨_, rfl, ixT ht rfl ⟨_, rfl, T.ns, hN, ⟨l1, gT.pos⟩, fun H1 e1 => ⟨true, rfl, tst_f rfl ?_⟩⟩⟩⟩⟩⟩)
  refine nxI ?_
  dsimp only [List.set_cons_succ, List.set_cons_zero]
  refine sqI (asI ⟨_, rfl, t, _, rfl, same_t e1 ht, rfl, _, _, rfl, _, _, rfl, _, _, rfl, rfl, ?_⟩)
  dsimp only [gName, List.set_cons_succ, List.set_cons_zero]
  refine rtI ⟨_, rfl, _, rfl, _, _, rfl, T.ns, T.old, hN.mono e1, hO.mono e1, l1, l2, gT.old, fun H2 e2 => ⟨true, rfl, tst_t rfl ⟨_, rfl, _, rfl, _, _, rfl, T.ns, T.wish, (hN.mono e1).mono e2, (hW.mono e1).mono e2, l1, by omega, gT.wish, fun H3 e3 => ⟨true, rfl, tst_t rfl ?_⟩⟩⟩⟩
  have e13 := (e1.trans e2).trans e3
  obtain ⟨o1, rfl, ho1⟩ := (hO.mono e13).t
  obtain ⟨w1, rfl, hw1⟩ := (hW.mono e13).t
  refine ⟨_, rfl, o1, _, rfl, .inr ho1, _, rfl, w1, _, rfl, .inr hw1, .inl ⟨rfl, ?_⟩⟩
  rw [decide_eq_true (show V.int ((T.old.map it).length : Nat) = V.int ((T.wish.map it).length : Nat) by rw [List.length_map, List.length_map, hWl])]
  exact q _ e13
end Wm
set_option Elab.async false
set_option linter.all false
set_option maxRecDepth 100000
set_option maxHeartbeats 4000000
/-! the program's checks of plans -/
namespace Wm
open PySem PySem.Spec PyProof.Rows L2
theorem sc_is_lot : FnScope ["many", "thing", "one", "other"] ["many", "thing"] (defScope s_is_lot) := ⟨rfl, rfl, rfl, by decide +kernel, rfl, by decide +kernel, by decide +kernel⟩
theorem d_is_lot {P : Program} {w : World} {K : PySem.W.Frag} {mg : Str → Option Value} {base : Heap} (W : Wd K mg base) : Dn P w K mg base 3 "is_lot" (sp2 (pYes2 K (Nd K) gLot)) := by
  refine W.dn (st := s_is_lot) (ps := ["many", "thing"]) 6 6 rfl rfl (fun _ _ _ _ _ _ us hl => match us, hl with | [_, _], _ => rfl) fun f fd F => ?_
  refine FunD.ok F sc_is_lot (fun vs H Q E h => ?_) (fun cdv A outer s H vs Q E hr h => ?_)
  · obtain ⟨_, _, rfl, _⟩ := h; rfl
  obtain ⟨x, y, rfl, h⟩ := h
  refine ⟨_, PSs.nox (pss_cons (ps_if (PW.pt (pw_or (pt_not (pt_val (pe_callB call_isi rfl (W.free 73) boot_isinstance (pa_cons (pv 1) (pa_cons (pe_bltn (v := .ty "tuple") rfl (W.free 76) boot_tuple rfl) pa_nil))))) (pw_or1 (pt_not (pt_val (pe_callB (cr_allK (K := K) rfl) rfl (W.free 77) boot_all (pa_cons (pe_lc (own := [("one", 2)]) rfl sc_is_lot.nd (pi_tupK (K := K) (pv 1)) (blkOk_by (by kernel_rfl)) (fun _ _ _ _ _ => (pg_name (i := 2) sc_is_lot.nd rfl (Or.inl rfl))) (fun _ _ _ _ _ => pts_nil) (fun _ _ _ _ _ => (pe_fn (d_is_below W) (hr.mono (by decide)) rfl (pa_cons (pv 0) (pa_cons (pv 2) pa_nil))))) pa_nil))))))) (pss_one (ps_ret pe_bl)) pss_nil)
      (pss_one (ps_ret (pe_callB (cr_allK (K := K) rfl) rfl (W.free 77) boot_all (pa_cons (pe_lc (own := [("one", 2), ("other", 3)]) rfl sc_is_lot.nd (RZ.pi_zipA rfl (W.free 79) (pa_cons (pv 1) (pa_cons (pe_slice (sl_any (K := K)) (pv 1) (po_some pe_int) po_none) pa_nil))) (blkOk_by (by kernel_rfl)) (fun _ _ _ _ _ => (pg_tupK (K := K) (n := 2) rfl (pgs_cons (pg_name (i := 2) sc_is_lot.nd rfl (Or.inl rfl)) (pgs_cons (pg_name (i := 3) sc_is_lot.nd rfl (Or.inl rfl)) pgs_nil)))) (fun _ _ _ _ _ => pts_nil) (fun _ _ _ _ _ => (pe_cmpR op_lt (pv 2) (pv 3) (nomark _)))) pa_nil))))), ?_⟩
  rw [show L2.start ["many", "thing", "one", "other"] [x, y] = [some x, some y, none, none] from rfl]
  obtain ⟨m, P, rfl, ⟨c, rfl, hc⟩, ⟨hl, hasc, hlow⟩, q⟩ := h
  refine sqI (ifI ⟨_, rfl, _, _, _, _, true, rfl, .ty _, tyx_tup hc, kTT, true, rfl, tst_f rfl (tbI (cb1 (lcI ⟨_, rfl, c, rfl, ⟨_, hc⟩, mpT P nt (fun _ => .bl true) hc (by omega) (fun i H1 hi e1 Z hz => ⟨rfl, _, rfl, _, rfl, _, _, rfl, m, i, rfl, rfl, hlow i hi, hz _ (Same.refl _)⟩) fun D H1 hD e1 h1 => rAllT P h1 ⟨true, rfl, tst_f rfl ?_⟩⟩)))⟩)
  refine nxI ?_
  dsimp only [List.set_cons_succ, List.set_cons_zero]
  refine rtI (cb1 (lcI ⟨_, rfl, _, rfl, 1, rfl, slT (same_t e1 hc) fun H2 c2 e2 h2 => ?_⟩))
  have h2' : SqT K H2 c2 ((P.drop 1).map nt) := by
    have := cut_drop (P.map nt) 1
    rw [← List.map_drop] at this
    rw [← this]; exact h2
  have hc2 := same_t (e1.trans e2) hc
  refine ⟨c, c2, _, _, rfl, .inr ⟨hc2, h2', ?_⟩⟩
  refine mpSel (walk_zipT (xs := P.map nt) (ys := (P.drop 1).map nt) rfl) (P.zip (P.drop 1)) (by simp) (fun _ _ => .bl true) (fun H' e => ⟨same_t e hc2, same_t e h2'⟩) (by simp; omega) (fun i a x H3 H4 hx e3 hY Z hz => ?_) fun D H3 hD e3 h3 => rAllT _ h3 (q _ ((e1.trans e2).trans e3))
  obtain ⟨T, y1, y2, rfl, hT, rfl, g1, g2⟩ := hY
  dsimp only at g1 g2
  obtain ⟨k1, k2⟩ := List.getElem?_zip_eq_some.mp hx
  rw [List.getElem?_map, k1] at g1
  rw [List.getElem?_map, k2] at g2
  cases g1
  cases g2
  refine ⟨T, _, rfl, SqT.of upd_same, rfl, _, _, rfl, _, _, rfl, rfl, rfl, _, rfl, _, rfl, _, _, rfl, rfl, ?_⟩
  have hlt : a.1 < a.2 := by
    rw [List.getElem?_drop] at k2
    obtain ⟨l1, m1⟩ := List.getElem?_eq_some_iff.mp k1
    obtain ⟨l2, m2⟩ := List.getElem?_eq_some_iff.mp k2
    rw [← m1, ← m2]
    exact List.pairwise_iff_getElem.mp hasc _ _ _ _ (by omega)
  dsimp only
  rw [decide_eq_true (show (a.1 : Int) < (a.2 : Int) by omega)]
  exact hz _ (Same.new hT)
theorem sc_is_copy : FnScope ["many", "thing", "place"] ["many", "thing"] (defScope s_is_copy) := ⟨rfl, rfl, rfl, by decide +kernel, rfl, by decide +kernel, by decide +kernel⟩
theorem d_is_copy {P : Program} {w : World} {K : PySem.W.Frag} {mg : Str → Option Value} {base : Heap} (W : Wd K mg base) : Dn P w K mg base 3 "is_copy" (sp2 (pYes2 K (Pr K) gCopy)) := by
  refine W.dn (st := s_is_copy) (ps := ["many", "thing"]) 7 7 rfl rfl (fun _ _ _ _ _ _ us hl => match us, hl with | [_, _], _ => rfl) fun f fd F => ?_
  refine FunD.ok F sc_is_copy (fun vs H Q E h => ?_) (fun cdv A outer s H vs Q E hr h => ?_)
  · obtain ⟨_, _, rfl, _⟩ := h; rfl
  have hu := hr.units
  obtain ⟨x, y, rfl, h⟩ := h
  refine ⟨_, PSs.nox (pss_cons (ps_if (PW.pt (pw_or (pt_not (pt_val (pe_callB call_isi rfl (W.free 73) boot_isinstance (pa_cons (pv 1) (pa_cons (pe_bltn (v := .ty "tuple") rfl (W.free 76) boot_tuple rfl) pa_nil))))) (pw_or (pt_cmpR (op_neA hu (K := K)) (pe_callB (call_lenK (K := K)) rfl (W.free 71) PySem.boot_len (pa_cons (pv 1) pa_nil)) pe_int (nomark _)) (pw_or1 (pt_not (pt_val (pe_callB (cr_allK (K := K) rfl) rfl (W.free 77) boot_all (pa_cons (pe_lc (own := [("place", 2)]) rfl sc_is_copy.nd (pi_tupK (K := K) (pv 1)) (blkOk_by (by kernel_rfl)) (fun _ _ _ _ _ => (pg_name (i := 2) sc_is_copy.nd rfl (Or.inl rfl))) (fun _ _ _ _ _ => pts_nil) (fun _ _ _ _ _ => (pe_fn (d_is_below W) (hr.mono (by decide)) rfl (pa_cons (pv 0) (pa_cons (pv 2) pa_nil))))) pa_nil)))))))) (pss_one (ps_ret pe_bl)) pss_nil)
      (pss_one (ps_ret (pe_cmpR (op_neA hu (K := K)) (pe_ix (ix_any (K := K)) (pv 1) pe_int (fun _ _ => rfl)) (pe_ix (ix_any (K := K)) (pv 1) pe_int (fun _ _ => rfl)) (nomark _))))), ?_⟩
  rw [show L2.start ["many", "thing", "place"] [x, y] = [some x, some y, none] from rfl]
  obtain ⟨m, p, rfl, ⟨c, rfl, hc0⟩, ⟨h1, h2, h3⟩, q⟩ := h
  have hc : SqT K H c ([p.1, p.2].map nt) := SqT.of hc0
  refine sqI (ifI ⟨_, rfl, _, _, _, _, true, rfl, .ty _, tyx_tup hc, kTT, true, rfl, tst_f rfl ⟨_, rfl, c, _, rfl, .inr hc, .inl ⟨rfl, false, rfl, tst_f rfl (tbI (cb1 (lcI ⟨_, rfl, c, rfl, ⟨_, hc⟩, mpT [p.1, p.2] nt (fun _ => .bl true) hc (by show 2 ≤ 100000; decide) (fun i H1 hi e1 Z hz => ⟨rfl, _, rfl, _, rfl, _, _, rfl, m, i, rfl, rfl, ?_, hz _ (Same.refl _)⟩) fun D H1 hD e1 g1 => rAllT [p.1, p.2] g1 ⟨true, rfl, tst_f rfl ?_⟩⟩)))⟩⟩⟩)
  · rcases List.mem_cons.mp hi with rfl | hi
    · exact h1
    · rw [List.mem_singleton.mp hi]; exact h2
  refine nxI ?_
  dsimp only [List.set_cons_succ, List.set_cons_zero]
  have hc1 := same_t e1 hc
  refine rtI ⟨_, rfl, ixT hc1 rfl ⟨_, rfl, ixT hc1 rfl (.inl ⟨rfl, ?_⟩)⟩⟩
  have : decide (nt p.1 = nt p.2) = false := decide_eq_false fun z => h3 (nt_inj.mp z)
  rw [this]
  exact q _ e1
theorem sc_is_stretch : FnScope ["many", "thing", "copy", "place", "source", "places"] ["many", "thing"] (defScope s_is_stretch) := ⟨rfl, rfl, rfl, by decide +kernel, rfl, by decide +kernel, by decide +kernel⟩
theorem d_is_stretch {P : Program} {w : World} {K : PySem.W.Frag} {mg : Str → Option Value} {base : Heap} (W : Wd K mg base) : Dn P w K mg base 4 "is_stretch" (sp2 (pYes2 K (StT K) gSt)) := by
  refine W.dn (st := s_is_stretch) (ps := ["many", "thing"]) 8 8 rfl rfl (fun _ _ _ _ _ _ us hl => match us, hl with | [_, _], _ => rfl) fun f fd F => ?_
  refine FunD.ok F sc_is_stretch (fun vs H Q E h => ?_) (fun cdv A outer s H vs Q E hr h => ?_)
  · obtain ⟨_, _, rfl, _⟩ := h; rfl
  have hu := hr.units
  obtain ⟨x, y, rfl, h⟩ := h
  refine ⟨_, PSs.nox (pss_cons (ps_if (PW.pt (pw_or (pt_not (pt_val (pe_callB call_isi rfl (W.free 73) boot_isinstance (pa_cons (pv 1) (pa_cons (pe_bltn (v := .ty "tuple") rfl (W.free 76) boot_tuple rfl) pa_nil))))) (pw_or (pt_cmpR (op_eqA hu (K := K)) (pe_callB (call_lenK (K := K)) rfl (W.free 71) PySem.boot_len (pa_cons (pv 1) pa_nil)) pe_int (nomark _)) (pw_or1 (pt_not (pt_val (pe_callB (cr_allK (K := K) rfl) rfl (W.free 77) boot_all (pa_cons (pe_lc (own := [("copy", 2)]) rfl sc_is_stretch.nd (pi_tupK (K := K) (pv 1)) (blkOk_by (by kernel_rfl)) (fun _ _ _ _ _ => (pg_name (i := 2) sc_is_stretch.nd rfl (Or.inl rfl))) (fun _ _ _ _ _ => pts_nil) (fun _ _ _ _ _ => (pe_fn (d_is_copy W) (hr.mono (by decide)) rfl (pa_cons (pv 0) (pa_cons (pv 2) pa_nil))))) pa_nil)))))))) (pss_one (ps_ret pe_bl)) pss_nil)
      (pss_cons (ps_set (i := 5) sc_is_stretch.nd rfl (Or.inr rfl) (pe_callTy call_tuple_of rfl (W.free 76) boot_tuple (pa_cons (pe_lc (own := [("place", 3), ("source", 4)]) rfl sc_is_stretch.nd (pi_tupK (K := K) (pv 1)) (blkOk_by (by kernel_rfl)) (fun _ _ _ _ _ => (pg_tupK (K := K) (n := 2) rfl (pgs_cons (pg_name (i := 3) sc_is_stretch.nd rfl (Or.inl rfl)) (pgs_cons (pg_name (i := 4) sc_is_stretch.nd rfl (Or.inl rfl)) pgs_nil)))) (fun _ _ _ _ _ => pts_nil) (fun _ _ _ _ _ => (pv 3))) pa_nil)))
      (pss_one (ps_ret (pe_and (pe_fn (d_is_lot W) (hr.mono (by decide)) rfl (pa_cons (pv 0) (pa_cons (pv 5) pa_nil))) (pe_one (pe_callB (cr_allK (K := K) rfl) rfl (W.free 77) boot_all (pa_cons (pe_lc (own := [("place", 3), ("source", 4)]) rfl sc_is_stretch.nd (pi_tupK (K := K) (pv 1)) (blkOk_by (by kernel_rfl)) (fun _ _ _ _ _ => (pg_tupK (K := K) (n := 2) rfl (pgs_cons (pg_name (i := 3) sc_is_stretch.nd rfl (Or.inl rfl)) (pgs_cons (pg_name (i := 4) sc_is_stretch.nd rfl (Or.inl rfl)) pgs_nil)))) (fun _ _ _ _ _ => pts_nil) (fun _ _ _ _ _ => (pe_cmpR (op_niA (K := K)) (pv 4) (pv 5) (by rfl)))) pa_nil)))))))), ?_⟩
  rw [show L2.start ["many", "thing", "copy", "place", "source", "places"] [x, y] = [some x, some y, none, none, none, none] from rfl]
  obtain ⟨m, S, rfl, ⟨c, xs, rfl, hc, hp⟩, g, q⟩ := h
  have hl := g.len
  refine sqI (ifI ⟨_, rfl, _, _, _, _, true, rfl, .ty _, tyx_tup hc, kTT, true, rfl, tst_f rfl ⟨_, rfl, c, _, rfl, .inr hc, .inl ⟨rfl, false, ?_, tst_f rfl (tbI (cb1 (lcI ⟨_, rfl, c, rfl, ⟨_, hc⟩, mpRel (R := Pr K) (fun e h => h.mono e) xs S (fun _ => .bl true) hc hp (by omega) (fun x p H1 hp' e1 hx Z hz => ⟨rfl, _, rfl, _, rfl, _, _, rfl, m, p, rfl, hx, ⟨(g.low p hp').1, (g.low p hp').2, fun z => g.src p hp' (by rw [← z]; exact List.mem_map.mpr ⟨p, hp', rfl⟩)⟩, fun H2 e2 => hz _ e2⟩) fun D H1 hD e1 h1 => rAllT S.zipIdx h1 ⟨true, rfl, tst_f rfl ?_⟩⟩)))⟩⟩⟩)
  · have : xs.length ≠ 0 := by rw [hp.length]; exact fun z => g.ne (List.length_eq_zero_iff.mp z)
    rw [decide_eq_false (fun z => this (by injection z with z; omega))]
  refine nxI ?_
  dsimp only [List.set_cons_succ, List.set_cons_zero]
  have hc1 := same_t e1 hc
  refine sqI (asI (cb1 (lcI ⟨_, rfl, c, rfl, ⟨_, hc1⟩, mpPT xs S (fun p => nt p.1) hc1 (Prs.mono e1 hp) (by omega) (fun p c2 H2 hp' e2 hc2 Z hz => ⟨c2, _, rfl, hc2, rfl, _, _, rfl, _, _, rfl, rfl, rfl, _, rfl, hz _ (Same.refl _)⟩) fun D2 H2 hD2 e2 h2 => ⟨D2, _, rfl, .inl ⟨SqL.of h2, fun l hl2 => ?_⟩⟩⟩)))
  have t3 := Same.new (o := .tup (S.map fun p => nt p.1)) hl2
  have hpl : SqT K (upd H2 l (.tup (S.map fun p => nt p.1))) l ((plc S).map nt) := SqT.of (by rw [upd_same, plc, List.map_map]; rfl)
  have e13 := e1.trans (e2.trans t3)
  generalize upd H2 l (.tup (S.map fun p => nt p.1)) = H3 at hpl e13
  dsimp only [gName, List.set_cons_succ, List.set_cons_zero]
  refine rtI ⟨_, rfl, _, rfl, _, _, rfl, m, plc S, rfl, ⟨l, rfl, hpl⟩, ⟨by rw [List.length_map]; omega, g.lot, fun i hi => ?_⟩, fun H4 e4 => ⟨true, rfl, tst_t rfl (cb1 (lcI ⟨_, rfl, c, rfl, ⟨_, same_t (e13.trans e4) hc⟩, mpPT xs S (fun _ => .bl true) (same_t (e13.trans e4) hc) (Prs.mono (e13.trans e4) hp) (by omega) (fun p c2 H5 hp' e5 hc2 Z hz => ⟨c2, _, rfl, hc2, rfl, _, _, rfl, _, _, rfl, rfl, rfl, _, rfl, _, rfl, l, _, rfl, .inr (same_t (e4.trans e5) hpl), rfl, nts_flat _, ?_⟩) fun D5 H5 hD5 e5 h5 => rAllT S h5 (q _ ((e13.trans e4).trans e5))⟩))⟩⟩
  · obtain ⟨p, hp', rfl⟩ := List.mem_map.mp hi
    exact (g.low p hp').1
  · show Z (.bl (!inV (nt p.2) ((plc S).map nt))) H5
    rw [inV_nt]
    have : (plc S).contains p.2 = false := by simpa using g.src p hp'
    rw [this]
    exact hz _ (Same.refl _)
theorem sc_is_plan : FnScope ["many", "thing", "stretch"] ["many", "thing"] (defScope s_is_plan) := ⟨rfl, rfl, rfl, by decide +kernel, rfl, by decide +kernel, by decide +kernel⟩
theorem d_is_plan {P : Program} {w : World} {K : PySem.W.Frag} {mg : Str → Option Value} {base : Heap} (W : Wd K mg base) : Dn P w K mg base 5 "is_plan" (sp2 (pYes2 K (PlT K) gPlan)) := by
  refine W.dn (st := s_is_plan) (ps := ["many", "thing"]) 9 9 rfl rfl (fun _ _ _ _ _ _ us hl => match us, hl with | [_, _], _ => rfl) fun f fd F => ?_
  refine FunD.ok F sc_is_plan (fun vs H Q E h => ?_) (fun cdv A outer s H vs Q E hr h => ?_)
  · obtain ⟨_, _, rfl, _⟩ := h; rfl
  obtain ⟨x, y, rfl, h⟩ := h
  refine ⟨_, PSs.nox (pss_one (ps_ret (pe_and (pe_callB call_isi rfl (W.free 73) boot_isinstance (pa_cons (pv 1) (pa_cons (pe_bltn (v := .ty "tuple") rfl (W.free 76) boot_tuple rfl) pa_nil))) (pe_one (pe_callB (cr_allK (K := K) rfl) rfl (W.free 77) boot_all (pa_cons (pe_lc (own := [("stretch", 2)]) rfl sc_is_plan.nd (pi_tupK (K := K) (pv 1)) (blkOk_by (by kernel_rfl)) (fun _ _ _ _ _ => (pg_name (i := 2) sc_is_plan.nd rfl (Or.inl rfl))) (fun _ _ _ _ _ => pts_nil) (fun _ _ _ _ _ => (pe_fn (d_is_stretch W) (hr.mono (by decide)) rfl (pa_cons (pv 0) (pa_cons (pv 2) pa_nil))))) pa_nil)))))), ?_⟩
  rw [show L2.start ["many", "thing", "stretch"] [x, y] = [some x, some y, none] from rfl]
  obtain ⟨m, P, rfl, ⟨c, xs, rfl, hc, hp⟩, ⟨hl, g⟩, q⟩ := h
  exact rtI ⟨_, rfl, _, _, _, _, true, rfl, .ty _, tyx_tup hc, kTT, true, rfl, tst_t rfl (cb1 (lcI ⟨_, rfl, c, rfl, ⟨_, hc⟩, mpRel (R := StT K) (fun e h => h.mono e) xs P (fun _ => .bl true) hc hp (by omega) (fun x S H1 hS e1 hx Z hz => ⟨rfl, _, rfl, _, rfl, _, _, rfl, m, S, rfl, hx, g S hS, fun H2 e2 => hz _ e2⟩) fun D H1 hD e1 h1 => rAllT P.zipIdx h1 (q _ e1)⟩))⟩
theorem sc_places_of : FnScope ["stretch", "place", "source"] ["stretch"] (defScope s_places_of) := ⟨rfl, rfl, rfl, by decide +kernel, rfl, by decide +kernel, by decide +kernel⟩
theorem d_places_of {P : Program} {w : World} {K : PySem.W.Frag} {mg : Str → Option Value} {base : Heap} (W : Wd K mg base) : Dn P w K mg base 1 "places_of" (sp1 (pPlacesOf K)) := by
  refine W.dn (st := s_places_of) (ps := ["stretch"]) 10 10 rfl rfl (fun _ _ _ _ _ _ us hl => match us, hl with | [_], _ => rfl) fun f fd F => ?_
  refine FunD.ok F sc_places_of (fun vs H Q E h => ?_) (fun cdv A outer s H vs Q E hr h => ?_)
  · obtain ⟨_, rfl, _⟩ := h; rfl
  obtain ⟨x, rfl, h⟩ := h
  refine ⟨_, PSs.nox (pss_one (ps_ret (pe_callTy call_tuple_of rfl (W.free 76) boot_tuple (pa_cons (pe_lc (own := [("place", 1), ("source", 2)]) rfl sc_places_of.nd (pi_tupK (K := K) (pv 0)) (blkOk_by (by kernel_rfl)) (fun _ _ _ _ _ => (pg_tupK (K := K) (n := 2) rfl (pgs_cons (pg_name (i := 1) sc_places_of.nd rfl (Or.inl rfl)) (pgs_cons (pg_name (i := 2) sc_places_of.nd rfl (Or.inl rfl)) pgs_nil)))) (fun _ _ _ _ _ => pts_nil) (fun _ _ _ _ _ => (pv 1))) pa_nil)))), ?_⟩
  rw [show L2.start ["stretch", "place", "source"] [x] = [some x, none, none] from rfl]
  obtain ⟨S, ⟨c, xs, rfl, hc, hp⟩, hl, q⟩ := h
  refine rtI (cb1 (lcI ⟨_, rfl, c, rfl, ⟨_, hc⟩, mpPT xs S (fun p => nt p.1) hc hp (by omega) (fun p c2 H2 hp' e2 hc2 Z hz => ⟨c2, _, rfl, hc2, rfl, _, _, rfl, _, _, rfl, rfl, rfl, _, rfl, hz _ (Same.refl _)⟩) fun D2 H2 hD2 e2 h2 => ⟨D2, _, rfl, .inl ⟨SqL.of h2, fun l hl2 => q _ _ (e2.trans (Same.new hl2)) ⟨l, rfl, SqT.of ?_⟩⟩⟩⟩))
  rw [upd_same, plc, List.map_map]; rfl
theorem sc_can_be_done : FnScope ["layout", "stretch", "place", "source"] ["layout", "stretch"] (defScope s_can_be_done) := ⟨rfl, rfl, rfl, by decide +kernel, rfl, by decide +kernel, by decide +kernel⟩
theorem d_can_be_done {P : Program} {w : World} {K : PySem.W.Frag} {mg : Str → Option Value} {base : Heap} (W : Wd K mg base) : Dn P w K mg base 1 "can_be_done" (sp2 (pCan K)) := by
  refine W.dn (st := s_can_be_done) (ps := ["layout", "stretch"]) 11 11 rfl rfl (fun _ _ _ _ _ _ us hl => match us, hl with | [_, _], _ => rfl) fun f fd F => ?_
  refine FunD.ok F sc_can_be_done (fun vs H Q E h => ?_) (fun cdv A outer s H vs Q E hr h => ?_)
  · obtain ⟨_, _, rfl, _⟩ := h; rfl
  obtain ⟨x, y, rfl, h⟩ := h
  refine ⟨_, PSs.nox (pss_one (ps_ret (pe_callB (cr_allK (K := K) rfl) rfl (W.free 77) boot_all (pa_cons (pe_lc (own := [("place", 2), ("source", 3)]) rfl sc_can_be_done.nd (pi_tupK (K := K) (pv 1)) (blkOk_by (by kernel_rfl)) (fun _ _ _ _ _ => (pg_tupK (K := K) (n := 2) rfl (pgs_cons (pg_name (i := 2) sc_can_be_done.nd rfl (Or.inl rfl)) (pgs_cons (pg_name (i := 3) sc_can_be_done.nd rfl (Or.inl rfl)) pgs_nil)))) (fun _ _ _ _ _ => pts_nil) (fun _ _ _ _ _ => (pe_cmpR op_notN (pe_ix (ix_any (K := K)) (pv 0) (pv 3) (fun _ _ => rfl)) pe_non (nomark _)))) pa_nil)))), ?_⟩
  rw [show L2.start ["layout", "stretch", "place", "source"] [x, y] = [some x, some y, none, none] from rfl]
  obtain ⟨L, S, ⟨a, rfl, ha⟩, ⟨c, xs, rfl, hc, hp⟩, hl, hS, q⟩ := h
  refine rtI (cb1 (lcI ⟨_, rfl, c, rfl, ⟨_, hc⟩, mpPT xs S (fun _ => .bl true) hc hp (by omega) (fun p c2 H2 hp' e2 hc2 Z hz => ⟨c2, _, rfl, hc2, rfl, _, _, rfl, _, _, rfl, rfl, rfl, _, rfl, _, rfl, ixT (same_t e2 ha) (atI_nat (by rw [List.getElem?_map, getD_get (hS p hp').1]; rfl)) ⟨rfl, ?_⟩⟩) fun D2 H2 hD2 e2 h2 => rAllT S h2 (q _ e2)⟩))
  have : decide (it (L.getD p.2 none) = .non) = false := decide_eq_false fun z => (hS p hp').2 (it_none.mp z)
  rw [this]
  exact hz _ (Same.refl _)
theorem sc_led : FnScope ["layout", "stretch", "found", "place", "source"] ["layout", "stretch"] (defScope s_led) := ⟨rfl, rfl, rfl, by decide +kernel, rfl, by decide +kernel, by decide +kernel⟩
theorem d_led {P : Program} {w : World} {K : PySem.W.Frag} {mg : Str → Option Value} {base : Heap} (W : Wd K mg base) : Dn P w K mg base 1 "led" (sp2 (pLed K)) := by
  refine W.dn (st := s_led) (ps := ["layout", "stretch"]) 12 12 rfl rfl (fun _ _ _ _ _ _ us hl => match us, hl with | [_, _], _ => rfl) fun f fd F => ?_
  refine FunD.ok F sc_led (fun vs H Q E h => ?_) (fun cdv A outer s H vs Q E hr h => ?_)
  · obtain ⟨_, _, rfl, _⟩ := h; rfl
  obtain ⟨x, y, rfl, h⟩ := h
  refine ⟨_, PSs.nox (pss_cons (ps_set (i := 2) sc_led.nd rfl (Or.inl rfl) (pe_callTy call_list_of rfl (W.free 80) boot_list (pa_cons (pv 0) pa_nil)))
      (pss_cons (ps_for PassesOwn.never rfl (pi_tupK (K := K) (pv 1)) (pg_tupK (K := K) (n := 2) rfl (pgs_cons (pg_name (i := 3) sc_led.nd rfl (Or.inl rfl)) (pgs_cons (pg_name (i := 4) sc_led.nd rfl (Or.inl rfl)) pgs_nil))) (pss_one (ps_asg (pe_ix (ix_any (K := K)) (pv 0) (pv 4) (fun _ _ => rfl)) (pg_sub (pv 2) (pv 3) set_list))))
      (pss_one (ps_ret (pe_callTy call_tuple_of rfl (W.free 76) boot_tuple (pa_cons (pv 2) pa_nil)))))), ?_⟩
  rw [show L2.start ["layout", "stretch", "found", "place", "source"] [x, y] = [some x, some y, none, none, none] from rfl]
  obtain ⟨L, S, ⟨a, rfl, ha⟩, ⟨b, xs, rfl, hb, hp⟩, hl, hl2, hS, q⟩ := h
  refine sqI (asI ⟨_, rfl, a, _, rfl, .inr ha, fun p hpn => ?_⟩)
  have s0 : Same H (upd H p (.lst (L.map it))) := Same.new hpn
  refine ⟨_, rfl, b, rfl, ⟨xs, same_t s0 hb⟩, for_tup (xs := xs) (fun i σ H' => (∃ o3 o4, σ = [some (.ref a), some (.ref b), some (.ref p), o3, o4]) ∧ Same H H' ∧ H' p = some (.lst ((ledF L (S.take i) L).map it))) ?_ ?_ ?_ ?_⟩
  · exact ⟨⟨_, _, rfl⟩, s0, upd_same⟩
  · exact fun i σ H' _ hP => same_t hP.2.1 hb
  · rintro i x σ H' hx ⟨⟨o3, o4, rfl⟩, sm, hy⟩
    obtain ⟨q1, hq1, c, rfl, hc⟩ := pd_get hp hx
    have hm := hS q1 (List.mem_of_getElem? hq1)
    have hg2 : (L.map it)[q1.2]? = some (it (L.getD q1.2 none)) := by
      rw [List.getElem?_map, List.getD_eq_getElem?_getD, List.getElem?_eq_getElem hm.2]; rfl
    refine ⟨c, _, rfl, SqT.of (sm _ _ hc), rfl, _, _, rfl, _, _, rfl, rfl, _, rfl, _, rfl, .inr (.inl ⟨a, _, _, _, rfl, rfl, same_t sm ha, atI_nat hg2, ?_⟩)⟩
    refine ⟨_, rfl, _, rfl, p, _, _, q1.1, rfl, rfl, hy, ix_nt (by rw [List.length_map, ledF_len]; exact hm.1), ?_⟩
    refine ⟨⟨_, _, rfl⟩, Same.mut sm hpn, ?_⟩
    rw [upd_same, List.take_add_one, hq1]
    show _ = some (HO.lst ((ledF L (S.take i ++ [q1]) L).map it))
    rw [ledF_snoc, List.map_set]
  · rintro σ H' ⟨⟨o3, o4, rfl⟩, sm, hy⟩
    have e : S.take xs.length = S := by rw [hp.length, List.take_length]
    rw [e] at hy
    exact ⟨_, rfl, p, _, rfl, .inl ⟨SqL.of hy, fun l hl => q _ _ (sm.trans (Same.new hl)) ⟨l, rfl, SqT.of upd_same⟩⟩⟩
theorem sc_does : FnScope ["task", "plan", "layout", "stretch", "place", "item"] ["task", "plan"] (defScope s_does) := ⟨rfl, rfl, rfl, by decide +kernel, rfl, by decide +kernel, by decide +kernel⟩
theorem d_does {P : Program} {w : World} {K : PySem.W.Frag} {mg : Str → Option Value} {base : Heap} (W : Wd K mg base) : Dn P w K mg base 2 "does" (sp2 (pDoes K)) := by
  refine W.dn (st := s_does) (ps := ["task", "plan"]) 13 13 rfl rfl (fun _ _ _ _ _ _ us hl => match us, hl with | [_, _], _ => rfl) fun f fd F => ?_
  refine FunD.ok F sc_does (fun vs H Q E h => ?_) (fun cdv A outer s H vs Q E hr h => ?_)
  · obtain ⟨_, _, rfl, _⟩ := h; rfl
  have hu := hr.units
  obtain ⟨x, y, rfl, h⟩ := h
  refine ⟨_, PSs.nox (pss_cons (ps_set (i := 2) sc_does.nd rfl (Or.inr rfl) (pe_ix (ix_any (K := K)) (pv 0) pe_int (fun _ _ => rfl)))
      (pss_cons (ps_for PassesOwn.never rfl (pi_tupK (K := K) (pv 1)) (pg_name (i := 3) sc_does.nd rfl (Or.inl rfl)) (pss_cons (ps_if (pt_not (pt_val (pe_fn (d_can_be_done W) (hr.mono (by decide)) rfl (pa_cons (pv 2) (pa_cons (pv 3) pa_nil))))) (pss_one (ps_ret pe_bl)) pss_nil)
      (pss_one (ps_set (i := 2) sc_does.nd rfl (Or.inr rfl) (pe_fn (d_led W) (hr.mono (by decide)) rfl (pa_cons (pv 2) (pa_cons (pv 3) pa_nil)))))))
      (pss_one (ps_ret (pe_callB (cr_allK (K := K) rfl) rfl (W.free 77) boot_all (pa_cons (pe_lc (own := [("place", 4), ("item", 5)]) rfl sc_does.nd (pi_enumT rfl (W.free 78) (pa_cons (pe_ix (ix_any (K := K)) (pv 0) pe_int (fun _ _ => rfl)) pa_nil)) (blkOk_by (by kernel_rfl)) (fun _ _ _ _ _ => (pg_tupK (K := K) (n := 2) rfl (pgs_cons (pg_name (i := 4) sc_does.nd rfl (Or.inl rfl)) (pgs_cons (pg_name (i := 5) sc_does.nd rfl (Or.inl rfl)) pgs_nil)))) (fun _ _ _ _ _ => pts_nil) (fun _ _ _ _ _ => (pe_or (pe_cmpR op_isN (pv 5) pe_non (nomark _)) (pe_one (pe_cmpR (op_eqA hu (K := K)) (pv 5) (pe_ix (ix_any (K := K)) (pv 2) (pv 4) (fun _ _ => rfl)) (nomark _)))))) pa_nil)))))), ?_⟩
  rw [show L2.start ["task", "plan", "layout", "stretch", "place", "item"] [x, y] = [some x, some y, none, none, none, none] from rfl]
  obtain ⟨T, P, hTk, ⟨c, xs, rfl, hc, hP⟩, hg, hl, hpl, hWl, hw, q⟩ := h
  obtain ⟨t, y1, y2, y3, rfl, ht, hns, hold, ⟨cw, rfl, hcw⟩⟩ := hTk.open
  refine sqI (asI ⟨_, rfl, ixT ht rfl ?_⟩)
  dsimp only [gName, List.set_cons_succ, List.set_cons_zero]
  refine sqI ⟨_, rfl, c, rfl, ⟨xs, hc⟩, for_tup (xs := xs) (fun i σ H' => ∃ vl, (∃ o3, σ = [some (.ref t), some (.ref c), some vl, o3, none, none]) ∧ Same H H' ∧ LyT K H' vl (lastL T.old (P.take i))) ?_ ?_ ?_ ?_⟩
  · exact ⟨y2, ⟨_, rfl⟩, Same.refl _, hold⟩
  · rintro i σ H' _ ⟨_, _, sm, _⟩
    exact same_t sm hc
  · rintro i x σ H1 hx ⟨vl, ⟨o3, rfl⟩, sm, hvl⟩
    obtain ⟨S, hS, hSt⟩ := pd_get hP hx
    have et : P.take (i + 1) = P.take i ++ [S] := by rw [List.take_add_one, hS]; rfl
    have gS : GoodS T.ns (lastL T.old (P.take i)) S := by
      have h1 := (goodP_app (P.take i) (P.drop i) T.old).mp (by rw [List.take_append_drop]; exact hg)
      have h2 : P.drop i = S :: P.drop (i + 1) := by
        obtain ⟨h3, h4⟩ := List.getElem?_eq_some_iff.mp hS
        rw [← h4]; exact List.drop_eq_getElem_cons h3
      rw [h2] at h1
      exact h1.2.1
    have hll := lastL_len (P.take i) T.old
    have hSl := gS.len
    refine sqI (ifI ⟨_, rfl, _, rfl, _, _, rfl, _, S, hvl, hSt.mono sm, by omega, fun p hp => ⟨(gS.low p hp).2, gS.full p hp⟩, fun H2 e2 => ⟨true, rfl, tst_f rfl ?_⟩⟩)
    refine nxI ?_
    dsimp only [List.set_cons_succ, List.set_cons_zero]
    refine asI ⟨_, rfl, _, rfl, _, _, rfl, _, S, hvl.mono e2, hSt.mono (sm.trans e2), by omega, by omega, gS.low, fun H3 v3 e3 hv3 => ?_⟩
    exact ⟨v3, ⟨_, rfl⟩, (sm.trans e2).trans e3, by rw [et, lastL_snoc]; exact hv3⟩
  · rintro σ H1 ⟨vl, ⟨o3, rfl⟩, sm, hvl⟩
    have e : P.take xs.length = P := by rw [hP.length, List.take_length]
    rw [e] at hvl
    have hll := lastL_len P T.old
    obtain ⟨cl, rfl, hcl⟩ := hvl
    dsimp only [List.set_cons_succ, List.set_cons_zero]
    refine rtI (cb1 (lcI ⟨_, rfl, ixT (same_t sm ht) rfl ⟨cw, _, rfl, same_t sm hcw, mpE T.wish it (fun _ _ => .bl true) (same_t sm hcw) (by omega) (fun i o T' H2 hx e2 hT' Z hz => ?_) fun D H2 hD e2 h2 => rAllT _ h2 (q _ (sm.trans e2))⟩⟩))
    refine ⟨T', _, rfl, SqT.of upd_same, rfl, _, _, rfl, _, _, rfl, rfl, rfl, ?_⟩
    cases o with
    | none => exact ⟨_, rfl, rfl, true, rfl, tst_t rfl (hz _ (Same.new hT'))⟩
    | some v =>
      have hi := (List.getElem?_eq_some_iff.mp hx).1
      refine ⟨_, rfl, rfl, false, rfl, tst_f rfl ⟨_, rfl, _, rfl, _, rfl, ixT (same_t (e2.trans (Same.new hT')) hcl) (atI_nat (it_get (by omega))) (.inl ⟨it_scal (some v) _, ?_⟩)⟩⟩
      have h9 : (lastL T.old P).getD i none = some v := Classical.byContradiction fun z => by
        have : i ∈ wrong T.wish (lastL T.old P) := mem_wrong.mpr ⟨v, hx, z⟩
        rw [hw] at this
        cases this
      rw [h9, decide_eq_true rfl]
      exact hz _ (Same.new hT')
end Wm
set_option Elab.async false
set_option linter.all false
set_option maxRecDepth 100000
set_option maxHeartbeats 4000000
/-! the Store: what it holds, what its methods promise -/
namespace Wm
open PySem PySem.Spec PyProof.Rows L2
/-- what is told of a place: nothing (none: "?"), or what stands there -/
abbrev Tl := Option (Option Nat)
def tlV : Tl → V
  | none => .str "?"
  | some o => it o
structure Sst where
  T : Task
  P : Plan
  ix : Nat
  told : List Tl
  whole : List Nat
  on : Bool
  n : Nat
def wayS (b : Bool) : Str := if b then "on" else "back"
/-- only the objects at a and p may differ -/
def Kp (a p : Addr) (H H' : Hp) : Prop := ∀ c u, c ≠ a → c ≠ p → H c = some u → H' c = some u
theorem Kp.of {a p : Addr} {H H' : Hp} (e : Same H H') : Kp a p H H' := fun c u _ _ h => e c u h
theorem Kp.refl {a p : Addr} {H : Hp} : Kp a p H H := fun c u _ _ h => h
theorem Kp.trans {a p : Addr} {H1 H2 H3 : Hp} (x : Kp a p H1 H2) (y : Kp a p H2 H3) : Kp a p H1 H3 := fun c u h1 h2 h => y c u h1 h2 (x c u h1 h2 h)
theorem Kp.back {a p : Addr} {H0 H H' : Hp} (e : Same H0 H) (x : Kp a p H H') (ha : H0 a = none) (hp : H0 p = none) : Same H0 H' := fun c u h =>
  x c u (fun z => by rw [z, ha] at h; cases h) (fun z => by rw [z, hp] at h; cases h) (e c u h)
theorem Kp.upa {a p : Addr} {H : Hp} {o : HO} : Kp a p H (upd H a o) := fun c u h1 _ h => by rw [upd_ne h1]; exact h
theorem Kp.upp {a p : Addr} {H : Hp} {o : HO} : Kp a p H (upd H p o) := fun c u _ h2 h => by rw [upd_ne h2]; exact h
/-- a thing that is neither the instance nor its past -/
def Far (H : Hp) (a p : Addr) : Prop := ∃ φ zs, H a = some (.ext φ) ∧ H p = some (.lst zs)
section
variable {K : PySem.W.Frag} {H H' : Hp} {a p c : Addr}
theorem sqT_kp (f : Far H a p) (e : Kp a p H H') {xs : List V} (h : SqT K H c xs) : SqT K H' c xs := by
  obtain ⟨φ, zs, ha, hp⟩ := f
  rcases h with (h | ⟨o, h⟩) | h
  · exact .inl (.inl (e c _ (ne_of h ha (by intro z; cases z)) (ne_of h hp (by intro z; cases z)) h))
  · exact .inl (.inr ⟨o, e c _ (ne_of h ha (by intro z; cases z)) (ne_of h hp (by intro z; cases z)) h⟩)
  · exact .inr h
theorem prs_kp (f : Far H a p) (e : Kp a p H H') : ∀ {ys : List V} {S : Stretch}, Prs K H ys S → Prs K H' ys S
  | _, _, .nil => .nil
  | _, _, .cons ⟨b, h1, h2⟩ t => .cons ⟨b, h1, by
    obtain ⟨φ, zs, ha, hp⟩ := f
    exact e b _ (ne_of h2 ha (by intro z; cases z)) (ne_of h2 hp (by intro z; cases z)) h2⟩ (prs_kp f e t)
theorem stT_kp (f : Far H a p) (e : Kp a p H H') {x : V} {S : Stretch} (h : StT K H x S) : StT K H' x S := let ⟨c, xs, h1, h2, h3⟩ := h; ⟨c, xs, h1, sqT_kp f e h2, prs_kp f e h3⟩
theorem sts_kp (f : Far H a p) (e : Kp a p H H') : ∀ {ys : List V} {P : Plan}, Paired (StT K H) ys P → Paired (StT K H') ys P
  | _, _, .nil => .nil
  | _, _, .cons h t => .cons (stT_kp f e h) (sts_kp f e t)
theorem plT_kp (f : Far H a p) (e : Kp a p H H') {x : V} {P : Plan} (h : PlT K H x P) : PlT K H' x P := let ⟨c, xs, h1, h2, h3⟩ := h; ⟨c, xs, h1, sqT_kp f e h2, sts_kp f e h3⟩
theorem nd_kp (f : Far H a p) (e : Kp a p H H') {x : V} {ns : List Nat} (h : Nd K H x ns) : Nd K H' x ns := let ⟨c, h1, h2⟩ := h; ⟨c, h1, sqT_kp f e h2⟩
theorem lyT_kp (f : Far H a p) (e : Kp a p H H') {x : V} {L : Lay} (h : LyT K H x L) : LyT K H' x L := let ⟨c, h1, h2⟩ := h; ⟨c, h1, sqT_kp f e h2⟩
theorem lyF_kp (f : Far H a p) (e : Kp a p H H') {x : V} {L : Lay} (h : LyF K H x L) : LyF K H' x L := by
  obtain ⟨φ, zs, ha, hp⟩ := f
  obtain ⟨c, o, h1, h2, h3⟩ := h
  exact ⟨c, o, h1, e c _ (ne_of h2 ha (by intro z; cases z)) (ne_of h2 hp (by intro z; cases z)) h2, h3⟩
theorem lys_kp (f : Far H a p) (e : Kp a p H H') : ∀ {ys : List V} {P : List Lay}, Paired (LyT K H) ys P → Paired (LyT K H') ys P
  | _, _, .nil => .nil
  | _, _, .cons h t => .cons (lyT_kp f e h) (lys_kp f e t)
theorem tkT_kp (f : Far H a p) (e : Kp a p H H') {x : V} {T : Task} (h : TkT K H x T) : TkT K H' x T := let ⟨c, v1, v2, v3, h1, h2, h3, h4, h5⟩ := h; ⟨c, v1, v2, v3, h1, sqT_kp f e h2, nd_kp f e h3, lyF_kp f e h4, lyF_kp f e h5⟩
theorem csT_kp (f : Far H a p) (e : Kp a p H H') {x : V} {cs : List Int} (h : CsT K H x cs) : CsT K H' x cs := let ⟨c, h1, h2⟩ := h; ⟨c, h1, sqT_kp f e h2⟩
end
def TlT (K : PySem.W.Frag) (H : Hp) (x : V) (t : List Tl) : Prop := ∃ c, x = .ref c ∧ SqT K H c (t.map tlV)
def EmT (K : PySem.W.Frag) (H : Hp) (x : V) : Prop := ∃ c, x = .ref c ∧ SqT K H c []
/-- what the slots hold -/
structure SoV (K : PySem.W.Frag) (H : Hp) (p l : Addr) (vlost vplan vtask vtold vwhole : V) (s : Sst) : Prop where
  lays : ∃ ls, H l = some (.lst ls) ∧ Paired (LyT K H) ls (lays s.T.old s.P)
  past : ∃ zs, H p = some (.lst zs) ∧ zs.length ≤ s.n
  lost : EmT K H vlost
  plan : PlT K H vplan s.P
  task : TkT K H vtask s.T
  told : TlT K H vtold s.told
  whole : Nd K H vwhole s.whole
  lp : l ≠ p
abbrev slV (p l : Addr) (vlost vplan vtask vtold vwhole : V) (s : Sst) : List (Option V) :=
  [some (nt s.ix), some (.ref l), some vlost, some (.ref p), some vplan, some vtask, some vtold, some (.str (wayS s.on)), some vwhole]
/-- the Store at a, its past at p -/
def SoR (K : PySem.W.Frag) (H : Hp) (a p : Addr) (s : Sst) : Prop := ∃ dx l vlost vplan vtask vtold vwhole, Sto (SC0 K) dx a (slV p l vlost vplan vtask vtold vwhole s) H ∧ SoV K H p l vlost vplan vtask vtold vwhole s
theorem SoR.far {K : PySem.W.Frag} {H : Hp} {a p : Addr} {s : Sst} (h : SoR K H a p s) : Far H a p := by
  obtain ⟨dx, l, _, _, _, _, _, h1, h2⟩ := h
  obtain ⟨zs, h3, _⟩ := h2.past
  exact ⟨_, zs, h1.2.2, h3⟩
section
variable {K : PySem.W.Frag} {H H' : Hp} {a p l : Addr} {v1 v2 v3 v4 v5 : V} {s : Sst}
theorem SoV.same (e : Same H H') (h : SoV K H p l v1 v2 v3 v4 v5 s) : SoV K H' p l v1 v2 v3 v4 v5 s := by
  obtain ⟨ls, h1, h2⟩ := h.lays
  obtain ⟨zs, h3, h4⟩ := h.past
  obtain ⟨c1, rfl, g1⟩ := h.lost
  obtain ⟨c2, rfl, g2⟩ := h.told
  exact ⟨⟨ls, e _ _ h1, lys_mono e h2⟩, ⟨zs, e _ _ h3, h4⟩, ⟨c1, rfl, same_t e g1⟩, h.plan.mono e, h.task.mono e, ⟨c2, rfl, same_t e g2⟩, h.whole.mono e, h.lp⟩
theorem sto_same {C dx : Addr} {vs : List (Option V)} (e : Same H H') (h : Sto C dx a vs H) : Sto C dx a vs H' := ⟨h.1, e _ _ h.2.1, e _ _ h.2.2⟩
theorem SoR.same (e : Same H H') (h : SoR K H a p s) : SoR K H' a p s := let ⟨dx, l, a1, a2, a3, a4, a5, h1, h2⟩ := h; ⟨dx, l, a1, a2, a3, a4, a5, sto_same e h1, h2.same e⟩
/-- the instance's slots change -/
theorem SoV.upa {o : HO} {φ : Heap → Prop} (ha : H a = some (.ext φ)) (h : SoV K H p l v1 v2 v3 v4 v5 s) : SoV K (upd H a o) p l v1 v2 v3 v4 v5 s := by
  obtain ⟨ls, h1, h2⟩ := h.lays
  obtain ⟨zs, h3, h4⟩ := h.past
  obtain ⟨c1, rfl, g1⟩ := h.lost
  obtain ⟨c2, rfl, g2⟩ := h.told
  have f : Far H a p := ⟨φ, zs, ha, h3⟩
  have e : Kp a p H (upd H a o) := Kp.upa
  exact ⟨⟨ls, by rw [upd_ne (ne_of h1 ha (by intro z; cases z))]; exact h1, lys_kp f e h2⟩, ⟨zs, by rw [upd_ne (ne_of h3 ha (by intro z; cases z))]; exact h3, h4⟩, ⟨c1, rfl, sqT_kp f e g1⟩, plT_kp f e h.plan, tkT_kp f e h.task, ⟨c2, rfl, sqT_kp f e g2⟩, nd_kp f e h.whole, h.lp⟩
end
/-! ### promises -/
structure Wf (s : Sst) : Prop where
  nd : s.whole.Nodup
  wl : ∀ k ∈ s.whole, k < s.told.length
  tl : s.told.length = s.T.old.length
  l1 : s.T.old.length ≤ 100
  l2 : s.P.length ≤ 1000
  l3 : s.T.ns.length ≤ 100
  gp : GoodP s.T.ns s.T.old s.P
  n : s.n ≤ 10000000
theorem Wf.wlen {s : Sst} (h : Wf s) : s.whole.length ≤ 100 := by
  have := nodup_len h.nd h.wl
  have := h.tl
  have := h.l1
  omega
theorem goodP_all_at {ns : List Nat} {L : Lay} {P : Plan} {i : Nat} {S : Stretch} (g : GoodP ns L P) (h : P[i]? = some S) : GoodS ns (lastL L (P.take i)) S := by
  have h1 := (goodP_app (P.take i) (P.drop i) L).mp (by rw [List.take_append_drop]; exact g)
  have h2 : P.drop i = S :: P.drop (i + 1) := by
    obtain ⟨h3, h4⟩ := List.getElem?_eq_some_iff.mp h
    rw [← h4]; exact List.drop_eq_getElem_cons h3
  rw [h2] at h1
  exact h1.2.1
def mState (K : PySem.W.Frag) (x : V) (H : Hp) (Q : VK) : Prop := ∃ a p s, x = .ref a ∧ SoR K H a p s ∧ ∀ H' v, Same H H' → Q v H'
def mKeep (K : PySem.W.Frag) (x : V) (H : Hp) (Q : VK) : Prop := ∃ a p s, x = .ref a ∧ SoR K H a p s ∧ s.n ≤ 10000000 ∧ ∀ H', Kp a p H H' → SoR K H' a p { s with n := s.n + 1 } → Q .non H'
def mPlaces (K : PySem.W.Frag) (x : V) (H : Hp) (Q : VK) : Prop := ∃ a p s S, x = .ref a ∧ SoR K H a p s ∧ Wf s ∧ s.P[s.ix]? = some S ∧ ∀ H' v, Same H H' → Nd K H' v (plc S) → Q v H'
def mTell (K : PySem.W.Frag) (x y z : V) (H : Hp) (Q : VK) : Prop := ∃ a p s i t, x = .ref a ∧ SoR K H a p s ∧ y = nt i ∧ z = tlV t ∧ i < s.told.length ∧ s.told.length ≤ 100 ∧ ∀ H', Kp a p H H' → SoR K H' a p { s with told := s.told.set i t } → Q .non H'
def mDrop (K : PySem.W.Frag) (x y : V) (H : Hp) (Q : VK) : Prop := ∃ a p s i, x = .ref a ∧ SoR K H a p s ∧ y = nt i ∧ s.whole.length ≤ 100 ∧ ∀ H', Kp a p H H' → SoR K H' a p { s with whole := s.whole.filter fun k => !decide (k = i) } → Q .non H'
def mCheck (K : PySem.W.Frag) (x y : V) (H : Hp) (Q : VK) : Prop := ∃ a p s S i, x = .ref a ∧ SoR K H a p s ∧ Wf s ∧ s.P[s.ix]? = some S ∧ y = nt i ∧ i ∈ plc S ∧ ∀ H' v, Same H H' → Nd K H' v (plc S) → Q v H'
def mLeft (K : PySem.W.Frag) (x : V) (H : Hp) (Q : VK) : Prop := ∃ a p s S, x = .ref a ∧ SoR K H a p s ∧ Wf s ∧ s.P[s.ix]? = some S ∧ ∀ H' v, Same H H' → Nd K H' v ((plc S).filter fun k => !s.whole.contains k) → Q v H'
def mSpoil (K : PySem.W.Frag) (x y : V) (H : Hp) (Q : VK) : Prop := ∃ a p s S i, x = .ref a ∧ SoR K H a p s ∧ Wf s ∧ s.P[s.ix]? = some S ∧ y = nt i ∧ i ∈ plc S ∧
  ∀ H', Kp a p H H' → SoR K H' a p { s with told := s.told.set i none, whole := s.whole.filter fun k => !decide (k = i), n := s.n + 1 } → Q .non H'
def wantAt (s : Sst) (i : Nat) : Option Nat := (lastL s.T.old (s.P.take (s.ix + 1))).getD i none
def mWrite (K : PySem.W.Frag) (x y : V) (H : Hp) (Q : VK) : Prop := ∃ a p s S i, x = .ref a ∧ SoR K H a p s ∧ Wf s ∧ s.on = true ∧ s.P[s.ix]? = some S ∧ y = nt i ∧ i ∈ plc S ∧ (wantAt s i ≠ none → ∃ j, s.told[j]? = some (some (wantAt s i)) ∧ j ∉ plc S) ∧
  ∀ H' w, Kp a p H H' → w.Nodup → (∀ k, k ∈ w ↔ k = i ∨ k ∈ s.whole) → SoR K H' a p { s with told := s.told.set i (some (wantAt s i)), whole := w, n := s.n + 1 } → Q .non H'
def mCut (K : PySem.W.Frag) (x : V) (H : Hp) (Q : VK) : Prop := ∃ a p s S, x = .ref a ∧ SoR K H a p s ∧ Wf s ∧ s.P[s.ix]? = some S ∧
  ∀ H' t, Kp a p H H' → t.length = s.told.length → (∀ i, i ∈ plc S → t[i]? = some none) → (∀ i, i ∉ plc S → t[i]? = s.told[i]?) → SoR K H' a p { s with told := t, whole := [], n := s.n + 1 } → Q .non H'
def mMark (K : PySem.W.Frag) (x : V) (H : Hp) (Q : VK) : Prop := ∃ a p s S, x = .ref a ∧ SoR K H a p s ∧ Wf s ∧ s.on = true ∧ s.P[s.ix]? = some S ∧ (∀ k ∈ plc S, k ∈ s.whole) ∧
  ∀ H', Kp a p H H' → SoR K H' a p { s with ix := s.ix + 1, whole := [], n := s.n + 1 } → Q .non H'
def mTurn (K : PySem.W.Frag) (x : V) (H : Hp) (Q : VK) : Prop := ∃ a p s, x = .ref a ∧ SoR K H a p s ∧ Wf s ∧ s.ix < s.P.length ∧
  ∀ H', Kp a p H H' → SoR K H' a p { s with on := !s.on, whole := [], n := s.n + 1 } → Q .non H'
/-! ### views, the making -/
def rd (t : List Tl) (v : Nat) : List Nat := pos (fun _ x => decide (tlV x = nt v)) t
def vGoing (K : PySem.W.Frag) (x : V) (H : Hp) (Q : VK) : Prop := ∃ a p s, x = .ref a ∧ SoR K H a p s ∧ ∀ H' c, Same H H' → H c = none → H' c = some (.tup [.str (wayS s.on), nt s.ix]) → Q (.ref c) H'
def vShown (K : PySem.W.Frag) (x : V) (H : Hp) (Q : VK) : Prop := ∃ a p s, x = .ref a ∧ SoR K H a p s ∧ ∀ v, TlT K H v s.told → Q v H
def vReaders (K : PySem.W.Frag) (x y : V) (H : Hp) (Q : VK) : Prop := ∃ a p s v, x = .ref a ∧ SoR K H a p s ∧ y = nt v ∧ s.told.length ≤ 100 ∧ ∀ H' w, Same H H' → Nd K H' w (rd s.told v) → Q w H'
def vUntold (K : PySem.W.Frag) (x : V) (H : Hp) (Q : VK) : Prop := ∃ a p s, x = .ref a ∧ SoR K H a p s ∧ s.told.length ≤ 100 ∧ s.T.ns.length ≤ 100 ∧ ∀ H' w, Same H H' → Nd K H' w ((List.range s.T.ns.length).filter fun v => (rd s.told v).isEmpty) → Q w H'
def s0 (T : Task) (P : Plan) : Sst := ⟨T, P, 0, T.old.map some, [], true, 0⟩
def mInit (K : PySem.W.Frag) (x y z : V) (H : Hp) (Q : VK) : Prop := ∃ H0 a dx T P, x = .ref a ∧ H = upd (upd H0 dx (.own a)) a (.ins (SC0 K) dx []) ∧ H0 a = none ∧ H0 dx = none ∧ dx ≠ a ∧ TkT K H0 y T ∧ PlT K H0 z P ∧ DoOk T P ∧
  ∀ H' p, Same H0 H' → H0 p = none → SoR K H' a p (s0 T P) → Q .non H'
end Wm
set_option Elab.async false
set_option linter.all false
set_option maxRecDepth 100000
set_option maxHeartbeats 4000000
/-! the Store's methods -/
namespace Wm
open PySem PySem.Spec PyProof.Rows L2
theorem scm_state : FnScope ["self"] ["self"] (defScope m_state) := ⟨rfl, rfl, rfl, by decide +kernel, rfl, by decide +kernel, by decide +kernel⟩
theorem dm_state {P : Program} {w : World} {K : PySem.W.Frag} {mg : Str → Option Value} {base : Heap} (W : Wd K mg base) : DnM P w K mg base 1 "state" (sp1 (mState K)) := by
  refine W.dm (st := m_state) (ps := ["self"]) 57 59 rfl rfl (fun _ _ _ _ _ _ us hl => match us, hl with | [_], _ => rfl) fun f fd F => ?_
  refine FunD.ok F scm_state (fun vs H Q E h => ?_) (fun cdv A outer s H vs Q E hr h => ?_)
  · obtain ⟨_, rfl, _⟩ := h; rfl
  have SC := W.sc
  have S0 := W.sl 0 (by decide)
  have S2 := W.sl 2 (by decide)
  have S6 := W.sl 6 (by decide)
  have S7 := W.sl 7 (by decide)
  have S8 := W.sl 8 (by decide)
  obtain ⟨x, rfl, h⟩ := h
  refine ⟨_, PSs.nox (pss_one (ps_ret (pe_tup (pa_cons (pe_sg SC (S7).choose_spec (pv 0)) (pa_cons (pe_sg SC (S0).choose_spec (pv 0)) (pa_cons (pe_sg SC (S6).choose_spec (pv 0)) (pa_cons (pe_sg SC (S8).choose_spec (pv 0)) (pa_cons (pe_sg SC (S2).choose_spec (pv 0)) pa_nil)))))))), ?_⟩
  rw [show L2.start ["self"] [x] = [some x] from rfl]
  obtain ⟨a, p, s, rfl, ⟨dx, l, v1, v2, v3, v4, v5, hs, hv⟩, q⟩ := h
  exact rtI ⟨_, rfl, a, dx, _, _, rfl, hs, rfl, _, rfl, a, dx, _, _, rfl, hs, rfl, _, rfl, a, dx, _, _, rfl, hs, rfl, _, rfl, a, dx, _, _, rfl, hs, rfl, _, rfl, a, dx, _, _, rfl, hs, rfl, (by show 5 ≤ sizeLine; decide), fun p hp => q _ _ (Same.new hp)⟩
theorem scm_keep : FnScope ["self"] ["self"] (defScope m_keep) := ⟨rfl, rfl, rfl, by decide +kernel, rfl, by decide +kernel, by decide +kernel⟩
theorem dm_keep {P : Program} {w : World} {K : PySem.W.Frag} {mg : Str → Option Value} {base : Heap} (W : Wd K mg base) : DnM P w K mg base 2 "keep" (sp1 (mKeep K)) := by
  refine W.dm (st := m_keep) (ps := ["self"]) 58 60 rfl rfl (fun _ _ _ _ _ _ us hl => match us, hl with | [_], _ => rfl) fun f fd F => ?_
  refine FunD.ok F scm_keep (fun vs H Q E h => ?_) (fun cdv A outer s H vs Q E hr h => ?_)
  · obtain ⟨_, rfl, _⟩ := h; rfl
  have SC := W.sc
  have S3 := W.sl 3 (by decide)
  obtain ⟨x, rfl, h⟩ := h
  refine ⟨_, PSs.nox (pss_one (ps_expr (pe_bmK (K := K) PySem.F.plainAttrs_list PySem.F.slot_list_append PySem.F.type_list_append mt_append (pe_sg SC (S3).choose_spec (pv 0)) (pa_cons (pe_mt0 (dm_state W) SC (hr.mono (by decide)) (pv 0)) pa_nil)))), ?_⟩
  rw [show L2.start ["self"] [x] = [some x] from rfl]
  obtain ⟨a, p, s, rfl, hS, hn, q⟩ := h
  have hS0 := hS
  obtain ⟨dx, l, v1, v2, v3, v4, v5, hs, hv⟩ := hS
  obtain ⟨zs, hz, hzn⟩ := hv.past
  refine ⟨_, rfl, a, dx, _, _, rfl, hs, rfl, .inl ⟨rfl, _, SqL.of hz⟩, _, rfl, a, dx, _, rfl, hs.slt, _, rfl, a, p, s, rfl, hS0, fun H1 v e1 => ?_⟩
  have hz1 := e1 _ _ hz
  have hs1 := sto_same e1 hs
  have hv1 := hv.same e1
  refine ⟨p, zs, v, rfl, rfl, hz1, by show _ < 16777216; omega, q _ ((Kp.of e1).trans Kp.upp) ⟨dx, l, v1, v2, v3, v4, v5, ?_, ?_⟩⟩
  · have hap : a ≠ p := ne_of hs1.2.2 hz1 (by intro z; cases z)
    have hdp : dx ≠ p := ne_of hs1.2.1 hz1 (by intro z; cases z)
    exact ⟨hs1.1, by rw [upd_ne hdp]; exact hs1.2.1, by rw [upd_ne hap]; exact hs1.2.2⟩
  · obtain ⟨ls, h1, h2⟩ := hv1.lays
    obtain ⟨c1, rfl, g1⟩ := hv1.lost
    obtain ⟨c2, rfl, g2⟩ := hv1.told
    have f : Far H1 a p := ⟨_, zs, hs1.2.2, hz1⟩
    have e : Kp a p H1 (upd H1 p (.lst (zs ++ [v]))) := Kp.upp
    exact ⟨⟨ls, by rw [upd_ne hv1.lp]; exact h1, lys_kp f e h2⟩, ⟨zs ++ [v], upd_same, by rw [List.length_append]; show _ + 1 ≤ _ + 1; omega⟩, ⟨c1, rfl, sqT_kp f e g1⟩, plT_kp f e hv1.plan, tkT_kp f e hv1.task, ⟨c2, rfl, sqT_kp f e g2⟩, nd_kp f e hv1.whole, hv1.lp⟩
theorem scm_places : FnScope ["self"] ["self"] (defScope m_places) := ⟨rfl, rfl, rfl, by decide +kernel, rfl, by decide +kernel, by decide +kernel⟩
theorem dm_places {P : Program} {w : World} {K : PySem.W.Frag} {mg : Str → Option Value} {base : Heap} (W : Wd K mg base) : DnM P w K mg base 2 "places" (sp1 (mPlaces K)) := by
  refine W.dm (st := m_places) (ps := ["self"]) 59 61 rfl rfl (fun _ _ _ _ _ _ us hl => match us, hl with | [_], _ => rfl) fun f fd F => ?_
  refine FunD.ok F scm_places (fun vs H Q E h => ?_) (fun cdv A outer s H vs Q E hr h => ?_)
  · obtain ⟨_, rfl, _⟩ := h; rfl
  have SC := W.sc
  have S0 := W.sl 0 (by decide)
  have S4 := W.sl 4 (by decide)
  obtain ⟨x, rfl, h⟩ := h
  refine ⟨_, PSs.nox (pss_cons (ps_if (pt_chain op_le op_lt pe_int (pe_sg SC (S0).choose_spec (pv 0)) (pe_callB (call_lenK (K := K)) rfl (W.free 71) PySem.boot_len (pa_cons (pe_sg SC (S4).choose_spec (pv 0)) pa_nil))) (pss_one (ps_ret (pe_fn (d_places_of W) (hr.mono (by decide)) rfl (pa_cons (pe_ix (ix_any (K := K)) (pe_sg SC (S4).choose_spec (pv 0)) (pe_sg SC (S0).choose_spec (pv 0)) (fun _ _ => rfl)) pa_nil)))) pss_nil)
      (pss_one (ps_ret pe_non))), ?_⟩
  rw [show L2.start ["self"] [x] = [some x] from rfl]
  obtain ⟨a, p, s, S, rfl, ⟨dx, l, v1, v2, v3, v4, v5, hs, hv⟩, wf, hS, q⟩ := h
  obtain ⟨cp, xs, rfl, hcp, hP⟩ := hv.plan
  have hix := (List.getElem?_eq_some_iff.mp hS).1
  obtain ⟨x, hx, hxS⟩ := pd_at hP hS
  have gl := (goodP_all_at wf.gp hS).len
  rw [lastL_len] at gl
  have := wf.l1
  refine sqI (ifI ⟨_, rfl, a, dx, _, _, rfl, hs, rfl, _, _, rfl, rfl, true, ?_, tst_t rfl ⟨_, rfl, a, dx, _, _, rfl, hs, rfl, cp, xs, rfl, .inr hcp, _, _, rfl, rfl, true, ?_, tst_t rfl ?_⟩⟩)
  · dsimp only
    rw [decide_eq_true (show (0 : Int) ≤ (s.ix : Int) by omega)]
  · dsimp only
    rw [hP.length, decide_eq_true (show (s.ix : Int) < (s.P.length : Int) by omega)]
  · exact ⟨_, rfl, a, dx, _, _, rfl, hs, rfl, _, rfl, a, dx, _, _, rfl, hs, rfl, ixT hcp (atI_nat hx) ⟨_, rfl, S, hxS, by omega, fun H1 v e1 hv1 => q _ _ e1 hv1⟩⟩
end Wm
set_option Elab.async false
set_option linter.all false
set_option maxRecDepth 100000
set_option maxHeartbeats 4000000
/-! the Store's methods: tell, drop_whole, check_place, left -/
namespace Wm
open PySem PySem.Spec PyProof.Rows L2
theorem scm_tell : FnScope ["self", "place", "told"] ["self", "place", "told"] (defScope m_tell) := ⟨rfl, rfl, rfl, by decide +kernel, rfl, by decide +kernel, by decide +kernel⟩
theorem dm_tell {P : Program} {w : World} {K : PySem.W.Frag} {mg : Str → Option Value} {base : Heap} (W : Wd K mg base) : DnM P w K mg base 1 "tell" (sp3 (mTell K)) := by
  refine W.dm (st := m_tell) (ps := ["self", "place", "told"]) 60 62 rfl rfl (fun _ _ _ _ _ _ us hl => match us, hl with | [_, _, _], _ => rfl) fun f fd F => ?_
  refine FunD.ok F scm_tell (fun vs H Q E h => ?_) (fun cdv A outer s H vs Q E hr h => ?_)
  · obtain ⟨_, _, _, rfl, _⟩ := h; rfl
  have SC := W.sc
  have S6 := W.sl 6 (by decide)
  obtain ⟨x, y, z, rfl, h⟩ := h
  refine ⟨_, PSs.nox (pss_one (ps_sg SC (S6).choose_spec (pv 0) (pe_tup (StX.pa_star (pe_slice (sl_any (K := K)) (pe_sg SC (S6).choose_spec (pv 0)) po_none (po_some (pv 1))) (pa_cons (pv 2) (StX.pa_star (pe_slice (sl_any (K := K)) (pe_sg SC (S6).choose_spec (pv 0)) (po_some (pe_op (op_addA (K := K)) (pv 1) pe_int)) po_none) pa_nil)))))), ?_⟩
  rw [show L2.start ["self", "place", "told"] [x, y, z] = [some x, some y, some z] from rfl]
  obtain ⟨a, p, s, i, t, rfl, ⟨dx, l, v1, v2, v3, v4, v5, hs, hv⟩, rfl, rfl, hi, htl, q⟩ := h
  obtain ⟨ct, rfl, hct⟩ := hv.told
  refine ⟨_, rfl, a, dx, _, _, rfl, hs, rfl, _, rfl, (i : Int), rfl, slT hct fun H1 c1 e1 h1 => ⟨c1, _, rfl, .inl h1, _, rfl, _, rfl, a, dx, _, _, rfl, sto_same e1 hs, rfl, _, rfl, .inl ⟨_, _, rfl, rfl, _, rfl, ?_⟩⟩⟩
  have e0 : ((i : Nat) : Int) + 1 = ((i + 1 : Nat) : Int) := by omega
  dsimp only
  rw [e0]
  refine slT (same_t e1 hct) fun H2 c2 e2 h2 => ⟨c2, _, rfl, .inl h2, ?_⟩
  rw [cut_take, cut_drop]
  have hlen : (s.told.map tlV).length = s.told.length := List.length_map _
  refine ⟨by rw [List.length_append, List.length_take, List.length_cons, List.length_append, List.length_drop, hlen]; show _ ≤ 16777216; simp; omega, fun p3 hp3 => ?_⟩
  have e12 := e1.trans e2
  have e13 := e12.trans (Same.new (o := .tup ((s.told.map tlV).take i ++ (tlV t :: ((s.told.map tlV).drop (i + 1) ++ [])))) hp3)
  have hs3 := sto_same e13 hs
  refine ⟨_, rfl, a, dx, _, rfl, hs3, (by show _ < 9; decide), q _ ((Kp.of e13).trans Kp.upa) ⟨dx, l, v1, v2, v3, .ref p3, v5, hs3.put, ?_⟩⟩
  have hv3 := (hv.same e13).upa (o := SlX.SlO a (SC0 K) dx (slV p l v1 v2 v3 (.ref p3) v5 { s with told := s.told.set i t })) hs3.2.2
  refine ⟨hv3.lays, hv3.past, hv3.lost, hv3.plan, hv3.task, ⟨p3, rfl, ?_⟩, hv3.whole, hv3.lp⟩
  have hpa : p3 ≠ a := fun z => by rw [z, e12 _ _ hs.2.2] at hp3; cases hp3
  refine SqT.of ?_
  rw [upd_ne hpa, upd_same, List.append_nil]
  have : (s.told.set i t).map tlV = (s.told.map tlV).take i ++ (tlV t :: (s.told.map tlV).drop (i + 1)) := by
    rw [List.set_eq_take_append_cons_drop, if_pos hi, List.map_append, List.map_cons, List.map_take, List.map_drop]
  rw [this]
theorem scm_drop_whole : FnScope ["self", "place", "one"] ["self", "place"] (defScope m_drop_whole) := ⟨rfl, rfl, rfl, by decide +kernel, rfl, by decide +kernel, by decide +kernel⟩
theorem dm_drop_whole {P : Program} {w : World} {K : PySem.W.Frag} {mg : Str → Option Value} {base : Heap} (W : Wd K mg base) : DnM P w K mg base 1 "drop_whole" (sp2 (mDrop K)) := by
  refine W.dm (st := m_drop_whole) (ps := ["self", "place"]) 61 63 rfl rfl (fun _ _ _ _ _ _ us hl => match us, hl with | [_, _], _ => rfl) fun f fd F => ?_
  refine FunD.ok F scm_drop_whole (fun vs H Q E h => ?_) (fun cdv A outer s H vs Q E hr h => ?_)
  · obtain ⟨_, _, rfl, _⟩ := h; rfl
  have hu := hr.units
  have SC := W.sc
  have S8 := W.sl 8 (by decide)
  obtain ⟨x, y, rfl, h⟩ := h
  refine ⟨_, PSs.nox (pss_one (ps_sg SC (S8).choose_spec (pv 0) (pe_callTy call_tuple_of rfl (W.free 76) boot_tuple (pa_cons (pe_lc (own := [("one", 2)]) rfl scm_drop_whole.nd (pi_tupK (K := K) (pe_sg SC (S8).choose_spec (pv 0))) (blkOk_by (by kernel_rfl)) (fun _ _ _ _ _ => (pg_name (i := 2) scm_drop_whole.nd rfl (Or.inl rfl))) (fun _ _ _ _ _ => (pts_one (pt_cmpR (op_neA hu (K := K)) (pv 2) (pv 1) (nomark _)))) (fun _ _ _ _ _ => (pv 2))) pa_nil)))), ?_⟩
  rw [show L2.start ["self", "place", "one"] [x, y] = [some x, some y, none] from rfl]
  obtain ⟨a, p, s, i, rfl, ⟨dx, l, v1, v2, v3, v4, v5, hs, hv⟩, rfl, hwl, q⟩ := h
  obtain ⟨cw, rfl, hcw⟩ := hv.whole
  refine cb1 (lcI ⟨_, rfl, a, dx, _, _, rfl, hs, rfl, cw, rfl, ⟨_, hcw⟩, lcT s.whole nt (fun k => !decide (nt k = nt i)) nt hcw (by omega) (fun k H1 hk e1 Z N hz hN => ⟨rfl, _, rfl, _, rfl, .inl ⟨rfl, _, rfl, tst (fun c => ⟨_, rfl, hz _ c (Same.refl _)⟩) fun c => hN _ c (Same.refl _)⟩⟩) fun D H1 hD e1 h1 => ⟨D, _, rfl, .inl ⟨SqL.of h1, fun p3 hp3 => ?_⟩⟩⟩)
  have ef : s.whole.filter (fun k => !decide (nt k = nt i)) = s.whole.filter fun k => !decide (k = i) := by
    refine List.filter_congr fun k _ => ?_
    congr 1
    exact decide_eq_decide.mpr nt_inj
  rw [ef]
  have e13 := e1.trans (Same.new (o := .tup ((s.whole.filter fun k => !decide (k = i)).map nt)) hp3)
  have hs3 := sto_same e13 hs
  refine ⟨_, rfl, a, dx, _, rfl, hs3, (by show _ < 9; decide), q _ ((Kp.of e13).trans Kp.upa) ⟨dx, l, v1, v2, v3, v4, .ref p3, hs3.put, ?_⟩⟩
  have hv3 := (hv.same e13).upa (o := SlX.SlO a (SC0 K) dx (slV p l v1 v2 v3 v4 (.ref p3) { s with whole := s.whole.filter fun k => !decide (k = i) })) hs3.2.2
  have hpa : p3 ≠ a := fun z => by rw [z, e1 _ _ hs.2.2] at hp3; cases hp3
  exact ⟨hv3.lays, hv3.past, hv3.lost, hv3.plan, hv3.task, hv3.told, ⟨p3, rfl, SqT.of (by rw [upd_ne hpa, upd_same])⟩, hv3.lp⟩
theorem scm_check_place : FnScope ["self", "place", "places"] ["self", "place"] (defScope m_check_place) := ⟨rfl, rfl, rfl, by decide +kernel, rfl, by decide +kernel, by decide +kernel⟩
theorem dm_check_place {P : Program} {w : World} {K : PySem.W.Frag} {mg : Str → Option Value} {base : Heap} (W : Wd K mg base) : DnM P w K mg base 3 "check_place" (sp2 (mCheck K)) := by
  refine W.dm (st := m_check_place) (ps := ["self", "place"]) 62 64 rfl rfl (fun _ _ _ _ _ _ us hl => match us, hl with | [_, _], _ => rfl) fun f fd F => ?_
  refine FunD.ok F scm_check_place (fun vs H Q E h => ?_) (fun cdv A outer s H vs Q E hr h => ?_)
  · obtain ⟨_, _, rfl, _⟩ := h; rfl
  have SC := W.sc
  have S2 := W.sl 2 (by decide)
  obtain ⟨x, y, rfl, h⟩ := h
  refine ⟨_, PSs.nox (pss_cons (ps_set (i := 2) scm_check_place.nd rfl (Or.inl rfl) (pe_mt0 (dm_places W) SC (hr.mono (by decide)) (pv 0)))
      (pss_cons (ps_if (PW.pt (pw_or (pt_cmpR op_isN (pv 2) pe_non (nomark _)) (pw_or (pt_not (pt_val (pe_fn (d_is_integer W) (hr.mono (by decide)) rfl (pa_cons (pv 1) pa_nil)))) (pw_or (pt_cmpR (op_niA (K := K)) (pv 1) (pv 2) (by rfl)) (pw_or1 (pt_cmpR (op_inA (K := K)) (pv 1) (pe_sg SC (S2).choose_spec (pv 0)) (by rfl))))))) (pss_one ps_never) pss_nil)
      (pss_one (ps_ret (pv 2))))), ?_⟩
  rw [show L2.start ["self", "place", "places"] [x, y] = [some x, some y, none] from rfl]
  obtain ⟨a, p, s, S, i, rfl, hS0, wf, hS, rfl, hi, q⟩ := h
  refine sqI (asI ⟨_, rfl, a, ?_⟩)
  have hS1 := hS0
  obtain ⟨dx, l, v1, v2, v3, v4, v5, hs, hv⟩ := hS1
  refine ⟨dx, _, rfl, hs.slt, _, rfl, a, p, s, S, rfl, hS0, wf, hS, fun H1 v e1 hv1 => ?_⟩
  obtain ⟨c1, rfl, hc1⟩ := hv1
  obtain ⟨cl, rfl, hcl⟩ := hv.lost
  have hs1 := sto_same e1 hs
  dsimp only [gName, List.set_cons_succ, List.set_cons_zero]
  refine sqI (ifI ⟨_, rfl, rfl, false, rfl, tst_f rfl ⟨_, rfl, _, rfl, _, rfl, true, rfl, tst_f rfl ⟨_, rfl, _, rfl, c1, _, rfl, .inr hc1, rfl, nts_flat _, false, ?_, tst_f rfl ⟨_, rfl, _, rfl, a, dx, _, _, rfl, hs1, rfl, cl, _, rfl, .inr (same_t e1 hcl), rfl, rfl, false, rfl, tst_f rfl ?_⟩⟩⟩⟩)
  · show V.bl (!inV (nt i) ((plc S).map nt)) = V.bl false
    rw [inV_nt, List.contains_iff_mem.mpr hi]; rfl
  · exact ⟨_, rfl, q _ _ e1 ⟨c1, rfl, hc1⟩⟩
end Wm
set_option Elab.async false
set_option linter.all false
set_option maxRecDepth 100000
set_option maxHeartbeats 4000000
/-! the Store's methods: left, spoil, write, cut, mark, turn -/
namespace Wm
open PySem PySem.Spec PyProof.Rows L2
theorem scm_left : FnScope ["self", "places", "place"] ["self"] (defScope m_left) := ⟨rfl, rfl, rfl, by decide +kernel, rfl, by decide +kernel, by decide +kernel⟩
theorem dm_left {P : Program} {w : World} {K : PySem.W.Frag} {mg : Str → Option Value} {base : Heap} (W : Wd K mg base) : DnM P w K mg base 3 "left" (sp1 (mLeft K)) := by
  refine W.dm (st := m_left) (ps := ["self"]) 66 68 rfl rfl (fun _ _ _ _ _ _ us hl => match us, hl with | [_], _ => rfl) fun f fd F => ?_
  refine FunD.ok F scm_left (fun vs H Q E h => ?_) (fun cdv A outer s H vs Q E hr h => ?_)
  · obtain ⟨_, rfl, _⟩ := h; rfl
  have SC := W.sc
  have S2 := W.sl 2 (by decide)
  have S8 := W.sl 8 (by decide)
  obtain ⟨x, rfl, h⟩ := h
  refine ⟨_, PSs.nox (pss_cons (ps_set (i := 1) scm_left.nd rfl (Or.inl rfl) (pe_mt0 (dm_places W) SC (hr.mono (by decide)) (pv 0)))
      (pss_cons (ps_if (pt_cmpR op_isN (pv 1) pe_non (nomark _)) (pss_one (ps_ret (pe_tup pa_nil))) pss_nil)
      (pss_one (ps_ret (pe_callTy call_tuple_of rfl (W.free 76) boot_tuple (pa_cons (pe_lc (own := [("place", 2)]) rfl scm_left.nd (pi_tupK (K := K) (pv 1)) (blkOk_by (by kernel_rfl)) (fun _ _ _ _ _ => (pg_name (i := 2) scm_left.nd rfl (Or.inl rfl))) (fun _ _ _ _ _ => (pts_one (PW.pt (pw_and (pt_cmpR (op_niA (K := K)) (pv 2) (pe_sg SC (S8).choose_spec (pv 0)) (by rfl)) (pw_and1 (pt_cmpR (op_niA (K := K)) (pv 2) (pe_sg SC (S2).choose_spec (pv 0)) (by rfl))))))) (fun _ _ _ _ _ => (pv 2))) pa_nil)))))), ?_⟩
  rw [show L2.start ["self", "places", "place"] [x] = [some x, none, none] from rfl]
  obtain ⟨a, p, s, S, rfl, hS0, wf, hS, q⟩ := h
  have hS1 := hS0
  obtain ⟨dx, l, v1, v2, v3, v4, v5, hs, hv⟩ := hS1
  have gl := (goodP_all_at wf.gp hS).len
  rw [lastL_len] at gl
  have hl1 := wf.l1
  refine sqI (asI ⟨_, rfl, a, dx, _, rfl, hs.slt, _, rfl, a, p, s, S, rfl, hS0, wf, hS, fun H1 v e1 hv1 => ?_⟩)
  obtain ⟨c1, rfl, hc1⟩ := hv1
  obtain ⟨cl, rfl, hcl⟩ := hv.lost
  obtain ⟨cw, rfl, hcw⟩ := hv.whole
  have hs1 := sto_same e1 hs
  dsimp only [gName, List.set_cons_succ, List.set_cons_zero]
  refine sqI (ifI ⟨_, rfl, rfl, false, rfl, tst_f rfl ?_⟩)
  refine nxI ?_
  dsimp only [List.set_cons_succ, List.set_cons_zero]
  refine rtI (cb1 (lcI ⟨_, rfl, c1, rfl, ⟨_, hc1⟩, lcT (plc S) nt (fun k => !s.whole.contains k) nt hc1 (by rw [List.length_map]; omega) (fun k H2 hk e2 Z N hz hN => ⟨rfl, ?_⟩) fun D H2 hD e2 h2 => ⟨D, _, rfl, .inl ⟨SqL.of h2, fun p3 hp3 => q _ _ ((e1.trans e2).trans (Same.new hp3)) ⟨p3, rfl, SqT.of upd_same⟩⟩⟩⟩))
  refine ⟨_, rfl, _, rfl, a, dx, _, _, rfl, sto_same e2 hs1, rfl, cw, _, rfl, .inr (same_t (e1.trans e2) hcw), rfl, nts_flat _, !s.whole.contains k, ?_, tst (fun c => ?_) fun c => hN _ c (Same.refl _)⟩
  · show V.bl (!inV (nt k) (s.whole.map nt)) = _
    rw [inV_nt]
  · exact ⟨_, rfl, _, rfl, a, dx, _, _, rfl, sto_same e2 hs1, rfl, cl, _, rfl, .inr (same_t (e1.trans e2) hcl), rfl, rfl, true, rfl, tst_t rfl ⟨_, rfl, hz _ c (Same.refl _)⟩⟩
theorem scm_spoil : FnScope ["self", "place"] ["self", "place"] (defScope m_spoil) := ⟨rfl, rfl, rfl, by decide +kernel, rfl, by decide +kernel, by decide +kernel⟩
theorem dm_spoil {P : Program} {w : World} {K : PySem.W.Frag} {mg : Str → Option Value} {base : Heap} (W : Wd K mg base) : DnM P w K mg base 4 "spoil" (sp2 (mSpoil K)) := by
  refine W.dm (st := m_spoil) (ps := ["self", "place"]) 64 66 rfl rfl (fun _ _ _ _ _ _ us hl => match us, hl with | [_, _], _ => rfl) fun f fd F => ?_
  refine FunD.ok F scm_spoil (fun vs H Q E h => ?_) (fun cdv A outer s H vs Q E hr h => ?_)
  · obtain ⟨_, _, rfl, _⟩ := h; rfl
  have SC := W.sc
  obtain ⟨x, y, rfl, h⟩ := h
  refine ⟨_, PSs.nox (pss_cons (ps_expr (pe_mt (dm_check_place W) SC (hr.mono (by decide)) (pv 0) (pa_cons (pv 1) pa_nil)))
      (pss_cons (ps_expr (pe_mt0 (dm_keep W) SC (hr.mono (by decide)) (pv 0)))
      (pss_cons (ps_expr (pe_mt (dm_tell W) SC (hr.mono (by decide)) (pv 0) (pa_cons (pv 1) (pa_cons pe_str pa_nil))))
      (pss_one (ps_expr (pe_mt (dm_drop_whole W) SC (hr.mono (by decide)) (pv 0) (pa_cons (pv 1) pa_nil))))))), ?_⟩
  rw [show L2.start ["self", "place"] [x, y] = [some x, some y] from rfl]
  obtain ⟨a, p, s, S, i, rfl, hS0, wf, hS, rfl, hi, q⟩ := h
  have gS := goodP_all_at wf.gp hS
  obtain ⟨q1, hq1, rfl⟩ := List.mem_map.mp hi
  have hlt := (gS.low q1 hq1).1
  rw [lastL_len] at hlt
  have htl := wf.tl
  have hl1 := wf.l1
  obtain ⟨dx, l, v1, v2, v3, v4, v5, hs, hv⟩ := id hS0
  refine sqI ⟨_, rfl, a, dx, _, rfl, hs.slt, _, rfl, _, _, rfl, a, p, s, S, q1.1, rfl, hS0, wf, hS, rfl, hi, fun H1 v e1 hv1 => ?_⟩
  have hS1 := hS0.same e1
  obtain ⟨dx1, l1, u1, u2, u3, u4, u5, hs1, hv1'⟩ := id hS1
  dsimp only [List.set_cons_succ, List.set_cons_zero]
  refine sqI ⟨_, rfl, a, dx1, _, rfl, hs1.slt, _, rfl, a, p, s, rfl, hS1, wf.n, fun H2 k2 hS2 => ?_⟩
  obtain ⟨dx2, l2, u1, u2, u3, u4, u5, hs2, hv2⟩ := id hS2
  dsimp only [List.set_cons_succ, List.set_cons_zero]
  refine sqI ⟨_, rfl, a, dx2, _, rfl, hs2.slt, _, rfl, _, _, _, rfl, a, p, _, q1.1, none, rfl, hS2, rfl, rfl, by show q1.1 < s.told.length; omega, by show s.told.length ≤ 100; omega, fun H3 k3 hS3 => ?_⟩
  obtain ⟨dx3, l3, u1, u2, u3, u4, u5, hs3, hv3⟩ := id hS3
  dsimp only [List.set_cons_succ, List.set_cons_zero]
  exact ⟨_, rfl, a, dx3, _, rfl, hs3.slt, _, rfl, _, _, rfl, a, p, _, q1.1, rfl, hS3, rfl, wf.wlen, fun H4 k4 hS4 => q _ (((Kp.of e1).trans k2).trans (k3.trans k4)) hS4⟩
end Wm
set_option Elab.async false
set_option linter.all false
set_option maxRecDepth 100000
set_option maxHeartbeats 4000000
/-! the Store's methods: write, cut, mark, turn -/
namespace Wm
open PySem PySem.Spec PyProof.Rows L2
theorem tl_scal (t : Tl) (o : Option Nat) : scal (tlV t) (it o) = true := by
  cases t with
  | none => cases o <;> rfl
  | some x => exact it_scal x o
theorem tl_eq {t : Tl} {o : Option Nat} : tlV t = it o ↔ t = some o := by
  cases t with
  | none => cases o <;> simp [tlV, it]
  | some x =>
    show it x = it o ↔ _
    rw [it_inj]
    simp
theorem scm_write : FnScope ["self", "place", "places", "wanted", "one", "told", "sources"] ["self", "place"] (defScope m_write) := ⟨rfl, rfl, rfl, by decide +kernel, rfl, by decide +kernel, by decide +kernel⟩
theorem dm_write {P : Program} {w : World} {K : PySem.W.Frag} {mg : Str → Option Value} {base : Heap} (W : Wd K mg base) : DnM P w K mg base 4 "write" (sp2 (mWrite K)) := by
  refine W.dm (st := m_write) (ps := ["self", "place"]) 63 65 rfl rfl (fun _ _ _ _ _ _ us hl => match us, hl with | [_, _], _ => rfl) fun f fd F => ?_
  refine FunD.ok F scm_write (fun vs H Q E h => ?_) (fun cdv A outer s H vs Q E hr h => ?_)
  · obtain ⟨_, _, rfl, _⟩ := h; rfl
  have hu := hr.units
  have SC := W.sc
  have S0 := W.sl 0 (by decide)
  have S1 := W.sl 1 (by decide)
  have S6 := W.sl 6 (by decide)
  have S7 := W.sl 7 (by decide)
  have S8 := W.sl 8 (by decide)
  obtain ⟨x, y, rfl, h⟩ := h
  refine ⟨_, PSs.nox (pss_cons (ps_set (i := 2) scm_write.nd rfl (Or.inr rfl) (pe_mt (dm_check_place W) SC (hr.mono (by decide)) (pv 0) (pa_cons (pv 1) pa_nil)))
      (pss_cons (ps_set (i := 3) scm_write.nd rfl (Or.inr rfl) (pe_ix (ix_any (K := K)) (pe_ix (ix_any (K := K)) (pe_sg SC (S1).choose_spec (pv 0)) (pe_op (op_addA (K := K)) (pe_sg SC (S0).choose_spec (pv 0)) (pe_callTy call_int1 rfl (W.free 74) boot_int (pa_cons (pe_cmpR (op_eqA hu (K := K)) (pe_sg SC (S7).choose_spec (pv 0)) pe_str (nomark _)) pa_nil))) (fun _ _ => rfl)) (pv 1) (fun _ _ => rfl)))
      (pss_cons (ps_setLc (i := 6) (own := [("one", 4), ("told", 5)]) rfl scm_write.nd rfl rfl (sw_true rfl rfl rfl (by decide +kernel)) (pi_enumT rfl (W.free 78) (pa_cons (pe_sg SC (S6).choose_spec (pv 0)) pa_nil)) (blkOk_by (by kernel_rfl)) (fun _ _ _ _ _ => (pg_tupK (K := K) (n := 2) rfl (pgs_cons (pg_name (i := 4) scm_write.nd rfl (Or.inl rfl)) (pgs_cons (pg_name (i := 5) scm_write.nd rfl (Or.inl rfl)) pgs_nil)))) (fun _ _ _ _ _ => (pts_one (PW.pt (pw_and (pt_cmpR (op_eqA hu (K := K)) (pv 5) (pv 3) (nomark _)) (pw_and1 (pt_cmpR (op_niA (K := K)) (pv 4) (pv 2) (by rfl))))))) (fun _ _ _ _ _ => (pv 4)))
      (pss_cons (ps_if (PW.pt (pw_and (pt_cmpR op_notN (pv 3) pe_non (nomark _)) (pw_and1 (pt_cmpR (op_eqA hu (K := K)) (pv 6) (pe_lst pa_nil) (nomark _))))) (pss_one ps_never) pss_nil)
      (pss_cons (ps_expr (pe_mt0 (dm_keep W) SC (hr.mono (by decide)) (pv 0)))
      (pss_cons (ps_expr (pe_mt (dm_tell W) SC (hr.mono (by decide)) (pv 0) (pa_cons (pv 1) (pa_cons (pv 3) pa_nil))))
      (pss_cons (ps_expr (pe_mt (dm_drop_whole W) SC (hr.mono (by decide)) (pv 0) (pa_cons (pv 1) pa_nil)))
      (pss_one (ps_sg SC (S8).choose_spec (pv 0) (pe_callTy call_tuple_of rfl (W.free 76) boot_tuple (pa_cons (pe_callB cr_sortedI rfl (W.free 81) boot_sorted (pa_cons (pe_lst (StX.pa_star (pe_sg SC (S8).choose_spec (pv 0)) (pa_cons (pv 1) pa_nil))) pa_nil)) pa_nil))))))))))), ?_⟩
  rw [show L2.start ["self", "place", "places", "wanted", "one", "told", "sources"] [x, y] = [some x, some y, none, none, none, none, none] from rfl]
  obtain ⟨a, p, s, S, i, rfl, hS0, wf, hon, hS, rfl, hi, hsrc, q⟩ := h
  have gS := goodP_all_at wf.gp hS
  obtain ⟨q1, hq1, rfl⟩ := List.mem_map.mp hi
  have hlt := (gS.low q1 hq1).1
  rw [lastL_len] at hlt
  have htl := wf.tl
  have hl1 := wf.l1
  have hix := (List.getElem?_eq_some_iff.mp hS).1
  obtain ⟨dx, l, v1, v2, v3, v4, v5, hs, hv⟩ := id hS0
  refine sqI (asI ⟨_, rfl, a, dx, _, rfl, hs.slt, _, rfl, _, _, rfl, a, p, s, S, q1.1, rfl, hS0, wf, hS, rfl, hi, fun H1 v e1 hv1 => ?_⟩)
  obtain ⟨cP, rfl, hcP⟩ := hv1
  have hS1 := hS0.same e1
  obtain ⟨dx1, l1, u1, u2, u3, u4, u5, hs1, hv1⟩ := id hS1
  obtain ⟨ls, hls, hlsL⟩ := hv1.lays
  have hgetL : (lays s.T.old s.P)[s.ix + 1]? = some (lastL s.T.old (s.P.take (s.ix + 1))) := lays_get _ _ _ (by omega)
  obtain ⟨xL, hxL, hxLL⟩ := pd_at hlsL hgetL
  obtain ⟨cL, rfl, hcL⟩ := hxLL
  have hll := lastL_len (s.P.take (s.ix + 1)) s.T.old
  dsimp only [gName, List.set_cons_succ, List.set_cons_zero]
  refine sqI (asI ⟨_, rfl, a, dx1, _, _, rfl, hs1, rfl, _, rfl, a, dx1, _, _, rfl, hs1, rfl, _, rfl, a, dx1, _, _, rfl, hs1, rfl, .inl ⟨rfl, ?_⟩⟩)
  have hw1 : decide (V.str (wayS s.on) = V.str "on") = true := by rw [hon]; rfl
  rw [hw1]
  refine .inr ⟨_, rfl, .inl ⟨_, _, rfl, rfl, ?_⟩⟩
  have e0 : V.int (((s.ix : Nat) : Int) + (if true = true then 1 else 0)) = nt (s.ix + 1) := by rw [if_pos rfl]; rfl
  dsimp only
  rw [e0]
  refine ixL (SqL.of hls) (atI_nat hxL) ⟨_, rfl, ixT hcL (atI_nat (it_get (by rw [hll]; exact hlt))) ?_⟩
  have ew : (lastL s.T.old (s.P.take (s.ix + 1))).getD q1.1 none = wantAt s q1.1 := rfl
  rw [ew]
  obtain ⟨ct, rfl, hct⟩ := hv1.told
  dsimp only [gName, List.set_cons_succ, List.set_cons_zero]
  refine sqI (asI (lcI ⟨_, rfl, a, dx1, _, _, rfl, hs1, rfl, ct, _, rfl, hct, lcE s.told tlV (fun j t => decide (tlV t = it (wantAt s q1.1)) && !(plc S).contains j) (fun j _ => nt j) hct (by omega) (fun j t T' H2 hx e2 hT Z N hz hN => ?_) fun D2 H2 hD2 e2 h2 => ?_⟩))
  · refine ⟨T', _, rfl, SqT.of upd_same, rfl, _, _, rfl, _, _, rfl, rfl, rfl, _, rfl, _, rfl, .inl ⟨tl_scal _ _, _, rfl, tst (fun c1 => ?_) fun c1 => hN _ (by rw [c1]; rfl) (Same.new hT)⟩⟩
    refine ⟨_, rfl, _, rfl, cP, _, rfl, .inr (same_t (e2.trans (Same.new hT)) hcP), rfl, nts_flat _, !(plc S).contains j, ?_, tst (fun c => ⟨_, rfl, hz _ (by rw [c1, c]; rfl) (Same.new hT)⟩) fun c => hN _ (by rw [c1, c]; rfl) (Same.new hT)⟩
    show V.bl (!inV (nt j) ((plc S).map nt)) = _
    rw [inV_nt]
  rw [pos_nt] at h2
  have hS2 := hS1.same e2
  dsimp only [gName, List.set_cons_succ, List.set_cons_zero]
  refine seq_cut (fun σ' H' => σ' = [some (.ref a), some (nt q1.1), some (.ref cP), some (it (wantAt s q1.1)), none, none, some (.ref D2)] ∧ Same H H' ∧ SoR K H' a p s) (fun nx hnx => ?_) ?_
  · refine ifI ⟨_, rfl, rfl, !decide (it (wantAt s q1.1) = .non), rfl, tst (fun c1 => ?_) fun c1 => ?_⟩
    · refine ⟨_, rfl, by decide, fun p3 hp3 => eqNilN _ (SqL.of (Same.new hp3 _ _ h2)) (SqL.of upd_same) ⟨_, rfl, tst (fun c2 => ?_) fun c2 => ?_⟩⟩
      · exfalso
        have hne : wantAt s q1.1 ≠ none := fun z => by rw [z] at c1; cases c1
        obtain ⟨j, hj1, hj2⟩ := hsrc hne
        have : j ∈ pos (fun j t => decide (tlV t = it (wantAt s q1.1)) && !(plc S).contains j) s.told := by
          rw [mem_pos]
          refine ⟨_, hj1, ?_⟩
          have h3 : (plc S).contains j = false := by simpa using hj2
          rw [h3, decide_eq_true (tl_eq.mpr rfl)]
          rfl
        rw [List.isEmpty_iff.mp c2] at this
        cases this
      · exact hnx _ _ ⟨rfl, (e1.trans e2).trans (Same.new hp3), hS2.same (Same.new hp3)⟩
    · exact hnx _ _ ⟨rfl, e1.trans e2, hS2⟩
  rintro σ H3 ⟨rfl, e3, hS3⟩
  obtain ⟨dx3, l3, u1, u2, u3, u4, u5, hs3, hv3⟩ := id hS3
  refine sqI ⟨_, rfl, a, dx3, _, rfl, hs3.slt, _, rfl, a, p, s, rfl, hS3, wf.n, fun H4 k4 hS4 => ?_⟩
  obtain ⟨dx4, l4, u1, u2, u3, u4, u5, hs4, hv4⟩ := id hS4
  dsimp only [List.set_cons_succ, List.set_cons_zero]
  refine sqI ⟨_, rfl, a, dx4, _, rfl, hs4.slt, _, rfl, _, rfl, _, _, _, rfl, a, p, _, q1.1, some (wantAt s q1.1), rfl, hS4, rfl, rfl, by show q1.1 < s.told.length; omega, by show s.told.length ≤ 100; omega, fun H5 k5 hS5 => ?_⟩
  obtain ⟨dx5, l5, u1, u2, u3, u4, u5, hs5, hv5⟩ := id hS5
  dsimp only [List.set_cons_succ, List.set_cons_zero]
  refine sqI ⟨_, rfl, a, dx5, _, rfl, hs5.slt, _, rfl, _, _, rfl, a, p, _, q1.1, rfl, hS5, rfl, wf.wlen, fun H6 k6 hS6 => ?_⟩
  obtain ⟨dx6, l6, u1, u2, u3, u4, u5, hs6, hv6⟩ := id hS6
  obtain ⟨cw, rfl, hcw⟩ := hv6.whole
  dsimp only [List.set_cons_succ, List.set_cons_zero]
  have hwl := wf.wlen
  have hfl : (s.whole.filter fun k => !decide (k = q1.1)).length ≤ s.whole.length := List.length_filter_le _ _
  refine cb1 (cb1 ⟨_, rfl, a, dx6, _, _, rfl, hs6, rfl, cw, _, rfl, .inl hcw, _, rfl, ?_, fun p7 hp7 => ?_⟩)
  · rw [List.length_append, List.length_map]
    show (s.whole.filter fun k => !decide (k = q1.1)).length + 1 ≤ 16777216
    omega
  have hnn : (s.whole.filter fun k => !decide (k = q1.1)).map nt ++ [nt q1.1] = (((s.whole.filter fun k => !decide (k = q1.1)) ++ [q1.1]).map fun n : Nat => (n : Int)).map V.int := by
    rw [List.map_map, List.map_append]; rfl
  refine ⟨p7, ((s.whole.filter fun k => !decide (k = q1.1)) ++ [q1.1]).map fun n : Nat => (n : Int), rfl, SqL.of (by rw [upd_same]; exact congrArg (fun z => some (HO.lst z)) hnn), fun ns' p8 hperm _ hp8 => ?_⟩
  refine ⟨p8, _, rfl, .inl ⟨SqL.of upd_same, fun p9 hp9 => ?_⟩⟩
  obtain ⟨w, rfl, hw⟩ : ∃ w : List Nat, ns' = w.map (fun n : Nat => (n : Int)) ∧ w.Perm ((s.whole.filter fun k => !decide (k = q1.1)) ++ [q1.1]) := by
    refine ⟨ns'.map Int.toNat, ?_, ?_⟩
    · rw [List.map_map]
      have : ∀ z ∈ ns', ((fun n : Nat => (n : Int)) ∘ Int.toNat) z = z := fun z hz => by
        obtain ⟨k, _, rfl⟩ := List.mem_map.mp (hperm.mem_iff.mp hz)
        rfl
      rw [List.map_congr_left this, List.map_id']
    · have := hperm.map Int.toNat
      rw [List.map_map] at this
      have h2 : ∀ z ∈ (s.whole.filter fun k => !decide (k = q1.1)) ++ [q1.1], (Int.toNat ∘ fun n : Nat => (n : Int)) z = id z := fun z _ => by show ((z : Nat) : Int).toNat = z; simp
      rwa [List.map_congr_left h2, List.map_id] at this
  have t7 := Same.new (o := .lst ((s.whole.filter fun k => !decide (k = q1.1)).map nt ++ [nt q1.1])) hp7
  have t8 := Same.new (o := .lst ((w.map fun n : Nat => (n : Int)).map V.int)) hp8
  have t9 := Same.new (o := .tup ((w.map fun n : Nat => (n : Int)).map V.int)) hp9
  have e79 := t7.trans (t8.trans t9)
  have hs9 := sto_same e79 hs6
  have kk : Kp a p H (upd (upd (upd H6 p7 (.lst ((s.whole.filter fun k => !decide (k = q1.1)).map nt ++ [nt q1.1]))) p8 (.lst ((w.map fun n : Nat => (n : Int)).map V.int))) p9 (.tup ((w.map fun n : Nat => (n : Int)).map V.int))) := ((Kp.of e3).trans k4).trans ((k5.trans k6).trans (Kp.of e79))
  refine ⟨_, rfl, a, dx6, _, rfl, hs9, (by show _ < 9; decide), q _ w (kk.trans Kp.upa) ?_ (fun k => ?_) ⟨dx6, l6, u1, u2, u3, u4, .ref p9, hs9.put, ?_⟩⟩
  · refine hw.nodup_iff.mpr (List.nodup_append.mpr ⟨wf.nd.filter _, by simp, fun x hx y hy z => ?_⟩)
    rw [List.mem_singleton.mp hy] at z
    have := (List.mem_filter.mp hx).2
    rw [z] at this
    simp at this
  · rw [hw.mem_iff, List.mem_append, List.mem_filter, List.mem_singleton]
    by_cases hk : k = q1.1
    · simp [hk]
    · simp [hk]
  · have hv9 := (hv6.same e79).upa (o := SlX.SlO a (SC0 K) dx6 (slV p l6 u1 u2 u3 u4 (.ref p9) { s with told := s.told.set q1.1 (some (wantAt s q1.1)), whole := w, n := s.n + 1 })) hs9.2.2
    have hpa : p9 ≠ a := fun z => by rw [z, (t7.trans t8) _ _ hs6.2.2] at hp9; cases hp9
    refine ⟨hv9.lays, hv9.past, hv9.lost, hv9.plan, hv9.task, hv9.told, ⟨p9, rfl, SqT.of ?_⟩, hv9.lp⟩
    rw [upd_ne hpa, upd_same, List.map_map]; rfl
end Wm
set_option Elab.async false
set_option linter.all false
set_option maxRecDepth 100000
set_option maxHeartbeats 4000000
/-! the Store's methods: cut, mark, turn -/
namespace Wm
open PySem PySem.Spec PyProof.Rows L2
theorem so_whole0 {K : PySem.W.Frag} {H : Hp} {a p p9 dx l : Addr} {v1 v2 v3 v4 v5 : V} {s : Sst} (hs : Sto (SC0 K) dx a (slV p l v1 v2 v3 v4 v5 s) H) (hv : SoV K H p l v1 v2 v3 v4 v5 s) (hp : H p9 = none) :
    Sto (SC0 K) dx a (slV p l v1 v2 v3 v4 v5 s) (upd H p9 (.tup [])) ∧ SoR K (upd (upd H p9 (.tup [])) a (SlX.SlO a (SC0 K) dx ((slV p l v1 v2 v3 v4 v5 s).set 8 (some (.ref p9))))) a p { s with whole := [] } := by
  have t9 := Same.new (o := .tup []) hp
  have hs9 := sto_same t9 hs
  have hv9 := (hv.same t9).upa (o := SlX.SlO a (SC0 K) dx ((slV p l v1 v2 v3 v4 v5 s).set 8 (some (.ref p9)))) hs9.2.2
  have hpa : p9 ≠ a := fun z => by rw [z, hs.2.2] at hp; cases hp
  exact ⟨hs9, dx, l, v1, v2, v3, v4, .ref p9, hs9.put, hv9.lays, hv9.past, hv9.lost, hv9.plan, hv9.task, hv9.told, ⟨p9, rfl, SqT.of (by rw [upd_ne hpa, upd_same]; rfl)⟩, hv9.lp⟩
theorem scm_cut : FnScope ["self", "places", "place"] ["self"] (defScope m_cut) := ⟨rfl, rfl, rfl, by decide +kernel, rfl, by decide +kernel, by decide +kernel⟩
theorem dm_cut {P : Program} {w : World} {K : PySem.W.Frag} {mg : Str → Option Value} {base : Heap} (W : Wd K mg base) : DnM P w K mg base 3 "cut" (sp1 (mCut K)) := by
  refine W.dm (st := m_cut) (ps := ["self"]) 65 67 rfl rfl (fun _ _ _ _ _ _ us hl => match us, hl with | [_], _ => rfl) fun f fd F => ?_
  refine FunD.ok F scm_cut (fun vs H Q E h => ?_) (fun cdv A outer s H vs Q E hr h => ?_)
  · obtain ⟨_, rfl, _⟩ := h; rfl
  have SC := W.sc
  have S8 := W.sl 8 (by decide)
  obtain ⟨x, rfl, h⟩ := h
  refine ⟨_, PSs.nox (pss_cons (ps_set (i := 1) scm_cut.nd rfl (Or.inl rfl) (pe_mt0 (dm_places W) SC (hr.mono (by decide)) (pv 0)))
      (pss_one (ps_if (pt_cmpR op_notN (pv 1) pe_non (nomark _)) (pss_cons (ps_expr (pe_mt0 (dm_keep W) SC (hr.mono (by decide)) (pv 0)))
      (pss_cons (ps_for PassesOwn.never rfl (pi_tupK (K := K) (pv 1)) (pg_name (i := 2) scm_cut.nd rfl (Or.inl rfl)) (pss_one (ps_expr (pe_mt (dm_tell W) SC (hr.mono (by decide)) (pv 0) (pa_cons (pv 2) (pa_cons pe_str pa_nil))))))
      (pss_one (ps_sg SC (S8).choose_spec (pv 0) (pe_tup pa_nil))))) pss_nil))), ?_⟩
  rw [show L2.start ["self", "places", "place"] [x] = [some x, none, none] from rfl]
  obtain ⟨a, p, s, S, rfl, hS0, wf, hS, q⟩ := h
  have gS := goodP_all_at wf.gp hS
  have htl := wf.tl
  have hl1 := wf.l1
  have hlow : ∀ k ∈ plc S, k < s.told.length := fun k hk => by
    obtain ⟨q1, hq1, rfl⟩ := List.mem_map.mp hk
    have := (gS.low q1 hq1).1
    rw [lastL_len] at this
    omega
  obtain ⟨dx, l, v1, v2, v3, v4, v5, hs, hv⟩ := id hS0
  refine sqI (asI ⟨_, rfl, a, dx, _, rfl, hs.slt, _, rfl, a, p, s, S, rfl, hS0, wf, hS, fun H1 v e1 hv1 => ?_⟩)
  obtain ⟨cP, rfl, hcP⟩ := hv1
  have hS1 := hS0.same e1
  obtain ⟨dx1, l1, u1, u2, u3, u4, u5, hs1, hv1⟩ := id hS1
  dsimp only [gName, List.set_cons_succ, List.set_cons_zero]
  refine ifI ⟨_, rfl, rfl, true, rfl, tst_t rfl ?_⟩
  refine sqI ⟨_, rfl, a, dx1, _, rfl, hs1.slt, _, rfl, a, p, s, rfl, hS1, wf.n, fun H2 k2 hS2 => ?_⟩
  have hcP2 := sqT_kp hS1.far k2 hcP
  dsimp only [List.set_cons_succ, List.set_cons_zero]
  refine sqI ⟨_, rfl, cP, rfl, ⟨_, hcP2⟩, for_tup (xs := (plc S).map nt) (fun i σ H' => ∃ t : List Tl, (∃ o2, σ = [some (.ref a), some (.ref cP), o2]) ∧ Kp a p H H' ∧ SqT K H' cP ((plc S).map nt) ∧ SoR K H' a p { s with told := t, n := s.n + 1 } ∧ t.length = s.told.length ∧ (∀ k, k ∈ (plc S).take i → t[k]? = some none) ∧ ∀ k, k ∉ (plc S).take i → t[k]? = s.told[k]?) ?_ ?_ ?_ ?_⟩
  · exact ⟨s.told, ⟨_, rfl⟩, (Kp.of e1).trans k2, hcP2, hS2, rfl, fun k hk => by simp at hk, fun _ _ => rfl⟩
  · rintro i σ H' _ ⟨_, _, _, h, _⟩
    exact h
  · rintro i x σ H3 hx ⟨t, ⟨o2, rfl⟩, k3, hc3, hS3, htl3, hin, hout⟩
    have hi := (List.getElem?_eq_some_iff.mp hx).1
    rw [List.length_map] at hi
    have hgi : (plc S)[i]? = some (plc S)[i] := List.getElem?_eq_getElem hi
    rw [List.getElem?_map, hgi] at hx
    cases hx
    have hk := hlow _ (List.getElem_mem hi)
    obtain ⟨dx3, l3, w1, w2, w3, w4, w5, hs3, hv3⟩ := id hS3
    refine ⟨_, rfl, a, dx3, _, rfl, hs3.slt, _, rfl, _, _, _, rfl, a, p, _, (plc S)[i], none, rfl, hS3, rfl, rfl, by show _ < t.length; omega, by show t.length ≤ 100; omega, fun H4 k4 hS4 => ?_⟩
    refine ⟨t.set (plc S)[i] none, ⟨_, rfl⟩, k3.trans k4, sqT_kp hS3.far k4 hc3, hS4, by rw [List.length_set]; exact htl3, fun k hk' => ?_, fun k hk' => ?_⟩
    · rw [List.take_add_one, hgi] at hk'
      by_cases h : (plc S)[i] = k
      · subst h; rw [List.getElem?_set_self (by omega)]
      · rw [List.getElem?_set_ne h]
        rcases List.mem_append.mp hk' with z | z
        · exact hin k z
        · have z' : k = (plc S)[i] := by simpa using z
          exact absurd z'.symm h
    · rw [List.take_add_one, hgi] at hk'
      have h1 : k ∉ (plc S).take i := fun z => hk' (List.mem_append_left _ z)
      have h2 : (plc S)[i] ≠ k := fun z => hk' (List.mem_append_right _ (by rw [z]; simp))
      rw [List.getElem?_set_ne h2]
      exact hout k h1
  · rintro σ H3 ⟨t, ⟨o2, rfl⟩, k3, hc3, hS3, htl3, hin, hout⟩
    rw [List.length_map, List.take_length] at hin hout
    obtain ⟨dx3, l3, w1, w2, w3, w4, w5, hs3, hv3⟩ := id hS3
    dsimp only [List.set_cons_succ, List.set_cons_zero]
    refine ⟨by decide, fun p9 hp9 => ?_⟩
    obtain ⟨hs9, hR⟩ := so_whole0 hs3 hv3 hp9
    exact ⟨_, rfl, a, dx3, _, rfl, hs9, (by show _ < 9; decide), q _ t (k3.trans ((Kp.of (Same.new hp9)).trans Kp.upa)) htl3 hin hout hR⟩
theorem scm_mark : FnScope ["self", "left"] ["self"] (defScope m_mark) := ⟨rfl, rfl, rfl, by decide +kernel, rfl, by decide +kernel, by decide +kernel⟩
theorem dm_mark {P : Program} {w : World} {K : PySem.W.Frag} {mg : Str → Option Value} {base : Heap} (W : Wd K mg base) : DnM P w K mg base 4 "mark" (sp1 (mMark K)) := by
  refine W.dm (st := m_mark) (ps := ["self"]) 67 69 rfl rfl (fun _ _ _ _ _ _ us hl => match us, hl with | [_], _ => rfl) fun f fd F => ?_
  refine FunD.ok F scm_mark (fun vs H Q E h => ?_) (fun cdv A outer s H vs Q E hr h => ?_)
  · obtain ⟨_, rfl, _⟩ := h; rfl
  have hu := hr.units
  have SC := W.sc
  have S0 := W.sl 0 (by decide)
  have S7 := W.sl 7 (by decide)
  have S8 := W.sl 8 (by decide)
  obtain ⟨x, rfl, h⟩ := h
  refine ⟨_, PSs.nox (pss_cons (ps_if (pt_cmpR op_isN (pe_mt0 (dm_places W) SC (hr.mono (by decide)) (pv 0)) pe_non (nomark _)) (pss_one ps_never) pss_nil)
      (pss_cons (ps_set (i := 1) scm_mark.nd rfl (Or.inl rfl) (pe_mt0 (dm_left W) SC (hr.mono (by decide)) (pv 0)))
      (pss_cons (ps_if (pt_cmpR (op_neA hu (K := K)) (pv 1) (pe_tup pa_nil) (nomark _)) (pss_one ps_never) pss_nil)
      (pss_cons (ps_expr (pe_mt0 (dm_keep W) SC (hr.mono (by decide)) (pv 0)))
      (pss_cons (ps_sgAug SC (S0).choose_spec (pv 0) (pe_ifExp (pt_cmpR (op_eqA hu (K := K)) (pe_sg SC (S7).choose_spec (pv 0)) pe_str (nomark _)) pe_int (pe_un un_neg pe_int)) in_add)
      (pss_one (ps_sg SC (S8).choose_spec (pv 0) (pe_tup pa_nil)))))))), ?_⟩
  rw [show L2.start ["self", "left"] [x] = [some x, none] from rfl]
  obtain ⟨a, p, s, S, rfl, hS0, wf, hon, hS, hall, q⟩ := h
  obtain ⟨dx, l, v1, v2, v3, v4, v5, hs, hv⟩ := id hS0
  refine sqI (ifI ⟨_, rfl, a, dx, _, rfl, hs.slt, _, rfl, a, p, s, S, rfl, hS0, wf, hS, fun H1 v e1 hv1 => ?_⟩)
  obtain ⟨cP, rfl, hcP⟩ := hv1
  have hS1 := hS0.same e1
  obtain ⟨dx1, l1, u1, u2, u3, u4, u5, hs1, hv1⟩ := id hS1
  refine ⟨rfl, false, rfl, tst_f rfl ?_⟩
  refine nxI ?_
  dsimp only [List.set_cons_succ, List.set_cons_zero]
  refine sqI (asI ⟨_, rfl, a, dx1, _, rfl, hs1.slt, _, rfl, a, p, s, S, rfl, hS1, wf, hS, fun H2 v2 e2 hv2 => ?_⟩)
  obtain ⟨cl, rfl, hcl⟩ := hv2
  have hnil : (plc S).filter (fun k => !s.whole.contains k) = [] := List.filter_eq_nil_iff.mpr fun k hk => by
    have := List.contains_iff_mem.mpr (hall k hk)
    rw [this]; decide
  rw [hnil] at hcl
  have hS2 := hS1.same e2
  obtain ⟨dx2, l2, u1, u2, u3, u4, u5, hs2, hv2⟩ := id hS2
  dsimp only [gName, List.set_cons_succ, List.set_cons_zero]
  refine sqI (ifI ⟨_, rfl, by decide, fun p3 hp3 => neNilT (ds := []) (same_t (Same.new hp3) hcl) .nil (fun d hd => by cases hd) (SqT.of upd_same) ⟨false, rfl, tst_f rfl ?_⟩⟩)
  have hS3 := hS2.same (Same.new (o := .tup []) hp3)
  have e13 := (e1.trans e2).trans (Same.new (o := .tup []) hp3)
  generalize upd H2 p3 (.tup []) = H3 at hS3 e13
  obtain ⟨dx3, l3, u1, u2, u3, u4, u5, hs3, hv3⟩ := id hS3
  refine nxI ?_
  dsimp only [List.set_cons_succ, List.set_cons_zero]
  refine sqI ⟨_, rfl, a, dx3, _, rfl, hs3.slt, _, rfl, a, p, s, rfl, hS3, wf.n, fun H4 k4 hS4 => ?_⟩
  obtain ⟨dx4, l4, u1, u2, u3, u4, u5, hs4, hv4⟩ := id hS4
  dsimp only [List.set_cons_succ, List.set_cons_zero]
  refine sqI ⟨_, rfl, a, dx4, _, _, rfl, hs4, rfl, _, rfl, a, dx4, _, _, rfl, hs4, rfl, .inl ⟨rfl, decide (V.str (wayS s.on) = V.str "on"), rfl, ?_⟩⟩
  have hw1 : decide (V.str (wayS s.on) = V.str "on") = true := by rw [hon]; rfl
  refine tst_t hw1 ⟨_, _, rfl, rfl, _, hs4, (by show _ < 9; decide), ?_⟩
  have hs5 : Sto (SC0 K) dx4 a (slV p l4 u1 u2 u3 u4 u5 { s with ix := s.ix + 1, n := s.n + 1 }) (upd H4 a (SlX.SlO a (SC0 K) dx4 (slV p l4 u1 u2 u3 u4 u5 { s with ix := s.ix + 1, n := s.n + 1 }))) := hs4.put
  have hv5 := hv4.upa (o := SlX.SlO a (SC0 K) dx4 (slV p l4 u1 u2 u3 u4 u5 { s with ix := s.ix + 1, n := s.n + 1 })) hs4.2.2
  have hv5' : SoV K (upd H4 a (SlX.SlO a (SC0 K) dx4 (slV p l4 u1 u2 u3 u4 u5 { s with ix := s.ix + 1, n := s.n + 1 }))) p l4 u1 u2 u3 u4 u5 { s with ix := s.ix + 1, n := s.n + 1 } := ⟨hv5.lays, hv5.past, hv5.lost, hv5.plan, hv5.task, hv5.told, hv5.whole, hv5.lp⟩
  have k5 : Kp a p H (upd H4 a (SlX.SlO a (SC0 K) dx4 (slV p l4 u1 u2 u3 u4 u5 { s with ix := s.ix + 1, n := s.n + 1 }))) := ((Kp.of e13).trans k4).trans Kp.upa
  have eH : upd H4 a (SlX.SlO a (SC0 K) dx4 ((slV p l4 u1 u2 u3 u4 u5 { s with n := s.n + 1 }).set 0 (some (V.int ((s.ix : Nat) + 1))))) = upd H4 a (SlX.SlO a (SC0 K) dx4 (slV p l4 u1 u2 u3 u4 u5 { s with ix := s.ix + 1, n := s.n + 1 })) := rfl
  dsimp only [List.set_cons_succ, List.set_cons_zero]
  refine ⟨by decide, fun p9 hp9 => ?_⟩
  obtain ⟨hs9, hR⟩ := so_whole0 hs5 hv5' hp9
  exact ⟨_, rfl, a, dx4, _, rfl, hs9, (by show _ < 9; decide), q _ (k5.trans ((Kp.of (Same.new hp9)).trans Kp.upa)) hR⟩
theorem scm_turn : FnScope ["self"] ["self"] (defScope m_turn) := ⟨rfl, rfl, rfl, by decide +kernel, rfl, by decide +kernel, by decide +kernel⟩
theorem dm_turn {P : Program} {w : World} {K : PySem.W.Frag} {mg : Str → Option Value} {base : Heap} (W : Wd K mg base) : DnM P w K mg base 3 "turn" (sp1 (mTurn K)) := by
  refine W.dm (st := m_turn) (ps := ["self"]) 68 70 rfl rfl (fun _ _ _ _ _ _ us hl => match us, hl with | [_], _ => rfl) fun f fd F => ?_
  refine FunD.ok F scm_turn (fun vs H Q E h => ?_) (fun cdv A outer s H vs Q E hr h => ?_)
  · obtain ⟨_, rfl, _⟩ := h; rfl
  have hu := hr.units
  have SC := W.sc
  have S0 := W.sl 0 (by decide)
  have S4 := W.sl 4 (by decide)
  have S7 := W.sl 7 (by decide)
  have S8 := W.sl 8 (by decide)
  obtain ⟨x, rfl, h⟩ := h
  refine ⟨_, PSs.nox (pss_cons (ps_expr (pe_mt0 (dm_keep W) SC (hr.mono (by decide)) (pv 0)))
      (pss_cons (ps_if (pt_cmpR (op_eqA hu (K := K)) (pe_sg SC (S7).choose_spec (pv 0)) pe_str (nomark _)) (pss_one (ps_asg (pe_tup (pa_cons pe_str (pa_cons (pe_callB (call_min2 rfl) rfl (W.free 82) boot_min (pa_cons (pe_sg SC (S0).choose_spec (pv 0)) (pa_cons (pe_op op_sub (pe_callB (call_lenK (K := K)) rfl (W.free 71) PySem.boot_len (pa_cons (pe_sg SC (S4).choose_spec (pv 0)) pa_nil)) pe_int) pa_nil))) pa_nil))) (pg_tupK (K := K) (n := 2) rfl (pgs_cons (pg_sg SC (S7).choose_spec (pv 0)) (pgs_cons (pg_sg SC (S0).choose_spec (pv 0)) pgs_nil))))) (pss_one (ps_asg (pe_tup (pa_cons pe_str (pa_cons (pe_callB (call_max2 rfl) rfl (W.free 83) boot_max (pa_cons (pe_sg SC (S0).choose_spec (pv 0)) (pa_cons pe_int pa_nil))) pa_nil))) (pg_tupK (K := K) (n := 2) rfl (pgs_cons (pg_sg SC (S7).choose_spec (pv 0)) (pgs_cons (pg_sg SC (S0).choose_spec (pv 0)) pgs_nil))))))
      (pss_one (ps_sg SC (S8).choose_spec (pv 0) (pe_tup pa_nil))))), ?_⟩
  rw [show L2.start ["self"] [x] = [some x] from rfl]
  obtain ⟨a, p, s, rfl, hS0, wf, hix, q⟩ := h
  obtain ⟨dx, l, v1, v2, v3, v4, v5, hs, hv⟩ := id hS0
  refine sqI ⟨_, rfl, a, dx, _, rfl, hs.slt, _, rfl, a, p, s, rfl, hS0, wf.n, fun H4 k4 hS4 => ?_⟩
  obtain ⟨dx4, l4, u1, u2, u3, u4, u5, hs4, hv4⟩ := id hS4
  dsimp only [List.set_cons_succ, List.set_cons_zero]
  refine seq_cut (fun σ' H' => σ' = [some (.ref a)] ∧ Kp a p H H' ∧ SoR K H' a p { s with on := !s.on, n := s.n + 1 }) (fun nx hnx => ?_) ?_
  · have fin : ∀ (p5 : Addr), H4 p5 = none → ∀ (w : Str) (o5 : HO), w = wayS (!s.on) → Sto (SC0 K) dx4 a (slV p l4 u1 u2 u3 u4 u5 { s with n := s.n + 1 }) (upd H4 p5 o5) ∧ nx [some (.ref a)] (upd (upd (upd H4 p5 o5) a (SlX.SlO a (SC0 K) dx4 ((slV p l4 u1 u2 u3 u4 u5 { s with n := s.n + 1 }).set 7 (some (.str w))))) a (SlX.SlO a (SC0 K) dx4 (((slV p l4 u1 u2 u3 u4 u5 { s with n := s.n + 1 }).set 7 (some (.str w))).set 0 (some (nt s.ix))))) := fun p5 hp5 w o5 hw => by
      have t5 := Same.new (o := o5) hp5
      have hs5 := sto_same t5 hs4
      refine ⟨hs5, hnx _ _ ⟨rfl, (k4.trans (Kp.of t5)).trans (Kp.upa.trans Kp.upa), dx4, l4, u1, u2, u3, u4, u5, ?_, ?_⟩⟩
      · rw [upd_upd]
        subst hw
        exact hs5.put
      · rw [upd_upd]
        have hv5 := (hv4.same t5).upa (o := SlX.SlO a (SC0 K) dx4 (((slV p l4 u1 u2 u3 u4 u5 { s with n := s.n + 1 }).set 7 (some (.str w))).set 0 (some (nt s.ix)))) hs5.2.2
        exact ⟨hv5.lays, hv5.past, hv5.lost, hv5.plan, hv5.task, hv5.told, hv5.whole, hv5.lp⟩
    have hpl := hv4.plan
    obtain ⟨cp, xp, rfl, hcp, hPp⟩ := hpl
    refine ifI ⟨_, rfl, a, dx4, _, _, rfl, hs4, rfl, .inl ⟨rfl, decide (V.str (wayS s.on) = V.str "on"), rfl, ?_⟩⟩
    cases hon : s.on with
    | true =>
      refine tst_t rfl ⟨_, rfl, a, dx4, _, _, rfl, hs4, rfl, _, rfl, a, dx4, _, _, rfl, hs4, rfl, cp, xp, rfl, .inr hcp, _, _, rfl, rfl, _, _, rfl, ?_⟩
      have em : V.int (if (xp.length : Int) - 1 < (s.ix : Int) then (xp.length : Int) - 1 else (s.ix : Int)) = nt s.ix := by
        have hxl : xp.length = s.P.length := hPp.length
        rw [hxl, if_neg (by omega)]
      dsimp only
      rw [em]
      refine ⟨(by show 2 ≤ sizeLine; decide), fun p5 hp5 => ?_⟩
      obtain ⟨f1, f2⟩ := fin p5 hp5 "back" (.tup [.str "back", nt s.ix]) (by rw [hon]; rfl)
      exact ⟨p5, _, rfl, SqT.of upd_same, rfl, _, _, rfl, _, rfl, a, dx4, _, rfl, f1, (by show _ < 9; decide), _, _, rfl, _, rfl, a, dx4, _, rfl, f1.put, (by show _ < 9; decide), rfl, f2⟩
    | false =>
      refine tst_f rfl ⟨_, rfl, a, dx4, _, _, rfl, hs4, rfl, _, _, rfl, ?_⟩
      have em : V.int (if (0 : Int) > (s.ix : Int) then (0 : Int) else (s.ix : Int)) = nt s.ix := by
        rw [if_neg (by omega)]
      dsimp only
      rw [em]
      refine ⟨(by show 2 ≤ sizeLine; decide), fun p5 hp5 => ?_⟩
      obtain ⟨f1, f2⟩ := fin p5 hp5 "on" (.tup [.str "on", nt s.ix]) (by rw [hon]; rfl)
      exact ⟨p5, _, rfl, SqT.of upd_same, rfl, _, _, rfl, _, rfl, a, dx4, _, rfl, f1, (by show _ < 9; decide), _, _, rfl, _, rfl, a, dx4, _, rfl, f1.put, (by show _ < 9; decide), rfl, f2⟩
  · rintro σ H5 ⟨rfl, k5, hS5⟩
    obtain ⟨dx5, l5, w1, w2, w3, w4, w5, hs5, hv5⟩ := id hS5
    refine ⟨by decide, fun p9 hp9 => ?_⟩
    obtain ⟨hs9, hR⟩ := so_whole0 hs5 hv5 hp9
    exact ⟨_, rfl, a, dx5, _, rfl, hs9, (by show _ < 9; decide), q _ (k5.trans ((Kp.of (Same.new hp9)).trans Kp.upa)) hR⟩
end Wm
set_option Elab.async false
set_option linter.all false
set_option maxRecDepth 100000
set_option maxHeartbeats 4000000
/-! views -/
namespace Wm
open PySem PySem.Spec PyProof.Rows L2
theorem sc_going_on : FnScope ["store"] ["store"] (defScope s_going_on) := ⟨rfl, rfl, rfl, by decide +kernel, rfl, by decide +kernel, by decide +kernel⟩
theorem d_going_on {P : Program} {w : World} {K : PySem.W.Frag} {mg : Str → Option Value} {base : Heap} (W : Wd K mg base) : Dn P w K mg base 1 "going_on" (sp1 (vGoing K)) := by
  refine W.dn (st := s_going_on) (ps := ["store"]) 14 14 rfl rfl (fun _ _ _ _ _ _ us hl => match us, hl with | [_], _ => rfl) fun f fd F => ?_
  refine FunD.ok F sc_going_on (fun vs H Q E h => ?_) (fun cdv A outer s H vs Q E hr h => ?_)
  · obtain ⟨_, rfl, _⟩ := h; rfl
  have SC := W.sc
  have S0 := W.sl 0 (by decide)
  have S7 := W.sl 7 (by decide)
  obtain ⟨x, rfl, h⟩ := h
  refine ⟨_, PSs.nox (pss_one (ps_ret (pe_tup (pa_cons (pe_sg SC (S7).choose_spec (pv 0)) (pa_cons (pe_sg SC (S0).choose_spec (pv 0)) pa_nil))))), ?_⟩
  rw [show L2.start ["store"] [x] = [some x] from rfl]
  obtain ⟨a, p, s, rfl, ⟨dx, l, v1, v2, v3, v4, v5, hs, hv⟩, q⟩ := h
  exact rtI ⟨_, rfl, a, dx, _, _, rfl, hs, rfl, _, rfl, a, dx, _, _, rfl, hs, rfl, (by show 2 ≤ sizeLine; decide), fun c hc => q _ c (Same.new hc) hc upd_same⟩
theorem sc_shown : FnScope ["store"] ["store"] (defScope s_shown) := ⟨rfl, rfl, rfl, by decide +kernel, rfl, by decide +kernel, by decide +kernel⟩
theorem d_shown {P : Program} {w : World} {K : PySem.W.Frag} {mg : Str → Option Value} {base : Heap} (W : Wd K mg base) : Dn P w K mg base 1 "shown" (sp1 (vShown K)) := by
  refine W.dn (st := s_shown) (ps := ["store"]) 15 15 rfl rfl (fun _ _ _ _ _ _ us hl => match us, hl with | [_], _ => rfl) fun f fd F => ?_
  refine FunD.ok F sc_shown (fun vs H Q E h => ?_) (fun cdv A outer s H vs Q E hr h => ?_)
  · obtain ⟨_, rfl, _⟩ := h; rfl
  have SC := W.sc
  have S6 := W.sl 6 (by decide)
  obtain ⟨x, rfl, h⟩ := h
  refine ⟨_, PSs.nox (pss_one (ps_ret (pe_sg SC (S6).choose_spec (pv 0)))), ?_⟩
  rw [show L2.start ["store"] [x] = [some x] from rfl]
  obtain ⟨a, p, s, rfl, ⟨dx, l, v1, v2, v3, v4, v5, hs, hv⟩, q⟩ := h
  exact rtI ⟨_, rfl, a, dx, _, _, rfl, hs, rfl, q _ hv.told⟩
theorem sc_readers : FnScope ["store", "value", "place", "told"] ["store", "value"] (defScope s_readers) := ⟨rfl, rfl, rfl, by decide +kernel, rfl, by decide +kernel, by decide +kernel⟩
theorem d_readers {P : Program} {w : World} {K : PySem.W.Frag} {mg : Str → Option Value} {base : Heap} (W : Wd K mg base) : Dn P w K mg base 1 "readers" (sp2 (vReaders K)) := by
  refine W.dn (st := s_readers) (ps := ["store", "value"]) 16 16 rfl rfl (fun _ _ _ _ _ _ us hl => match us, hl with | [_, _], _ => rfl) fun f fd F => ?_
  refine FunD.ok F sc_readers (fun vs H Q E h => ?_) (fun cdv A outer s H vs Q E hr h => ?_)
  · obtain ⟨_, _, rfl, _⟩ := h; rfl
  have hu := hr.units
  have SC := W.sc
  have S6 := W.sl 6 (by decide)
  obtain ⟨x, y, rfl, h⟩ := h
  refine ⟨_, PSs.nox (pss_one (ps_ret (pe_callTy call_tuple_of rfl (W.free 76) boot_tuple (pa_cons (pe_lc (own := [("place", 2), ("told", 3)]) rfl sc_readers.nd (pi_enumT rfl (W.free 78) (pa_cons (pe_sg SC (S6).choose_spec (pv 0)) pa_nil)) (blkOk_by (by kernel_rfl)) (fun _ _ _ _ _ => (pg_tupK (K := K) (n := 2) rfl (pgs_cons (pg_name (i := 2) sc_readers.nd rfl (Or.inl rfl)) (pgs_cons (pg_name (i := 3) sc_readers.nd rfl (Or.inl rfl)) pgs_nil)))) (fun _ _ _ _ _ => (pts_one (pt_cmpR (op_eqA hu (K := K)) (pv 3) (pv 1) (nomark _)))) (fun _ _ _ _ _ => (pv 2))) pa_nil)))), ?_⟩
  rw [show L2.start ["store", "value", "place", "told"] [x, y] = [some x, some y, none, none] from rfl]
  obtain ⟨a, p, s, v, rfl, ⟨dx, l, v1, v2, v3, v4, v5, hs, hv⟩, rfl, htl, q⟩ := h
  obtain ⟨ct, rfl, hct⟩ := hv.told
  refine rtI (cb1 (lcI ⟨_, rfl, a, dx, _, _, rfl, hs, rfl, ct, _, rfl, hct, lcE s.told tlV (fun _ t => decide (tlV t = nt v)) (fun j _ => nt j) hct (by omega) (fun j t T' H2 hx e2 hT Z N hz hN => ?_) fun D2 H2 hD2 e2 h2 => ⟨D2, _, rfl, .inl ⟨SqL.of h2, fun p3 hp3 => q _ _ (e2.trans (Same.new hp3)) ⟨p3, rfl, SqT.of ?_⟩⟩⟩⟩))
  · exact ⟨T', _, rfl, SqT.of upd_same, rfl, _, _, rfl, _, _, rfl, rfl, rfl, _, rfl, _, rfl, .inl ⟨tl_scal t (some v), _, rfl, tst (fun c => ⟨_, rfl, hz _ c (Same.new hT)⟩) fun c => hN _ c (Same.new hT)⟩⟩
  · rw [upd_same]
    exact congrArg (fun z => some (HO.tup z)) (pos_nt _ s.told)
theorem sc_untold : FnScope ["store", "value"] ["store"] (defScope s_untold) := ⟨rfl, rfl, rfl, by decide +kernel, rfl, by decide +kernel, by decide +kernel⟩
theorem d_untold {P : Program} {w : World} {K : PySem.W.Frag} {mg : Str → Option Value} {base : Heap} (W : Wd K mg base) : Dn P w K mg base 2 "untold" (sp1 (vUntold K)) := by
  refine W.dn (st := s_untold) (ps := ["store"]) 17 17 rfl rfl (fun _ _ _ _ _ _ us hl => match us, hl with | [_], _ => rfl) fun f fd F => ?_
  refine FunD.ok F sc_untold (fun vs H Q E h => ?_) (fun cdv A outer s H vs Q E hr h => ?_)
  · obtain ⟨_, rfl, _⟩ := h; rfl
  have hu := hr.units
  have SC := W.sc
  have S5 := W.sl 5 (by decide)
  obtain ⟨x, rfl, h⟩ := h
  refine ⟨_, PSs.nox (pss_one (ps_ret (pe_callTy call_tuple_of rfl (W.free 76) boot_tuple (pa_cons (pe_lc (own := [("value", 1)]) rfl sc_untold.nd (pi_range1 rfl (W.free 72) (pa_cons (pe_callB (call_lenK (K := K)) rfl (W.free 71) PySem.boot_len (pa_cons (pe_ix (ix_any (K := K)) (pe_sg SC (S5).choose_spec (pv 0)) pe_int (fun _ _ => rfl)) pa_nil)) pa_nil)) (blkOk_by (by kernel_rfl)) (fun _ _ _ _ _ => (pg_name (i := 1) sc_untold.nd rfl (Or.inl rfl))) (fun _ _ _ _ _ => (pts_one (pt_cmpR (op_eqA hu (K := K)) (pe_fn (d_readers W) (hr.mono (by decide)) rfl (pa_cons (pv 0) (pa_cons (pv 1) pa_nil))) (pe_tup pa_nil) (nomark _)))) (fun _ _ _ _ _ => (pv 1))) pa_nil)))), ?_⟩
  rw [show L2.start ["store", "value"] [x] = [some x, none] from rfl]
  obtain ⟨a, p, s, rfl, hS, htl, hnl, q⟩ := h
  obtain ⟨dx, l, v1, v2, v3, v4, v5, hs, hv⟩ := id hS
  obtain ⟨t, y1, y2, y3, rfl, ht, ⟨cn', rfl, hcn⟩, _, _⟩ := hv.task
  have e0 : ((s.T.ns.map nt).length : Int).toNat = s.T.ns.length := by simp
  refine rtI (cb1 (lcI ⟨_, rfl, a, dx, _, _, rfl, hs, rfl, ixT ht rfl ⟨cn', _, rfl, .inr hcn, _, rfl, by simp, by simp; omega, ?_⟩⟩))
  rw [e0]
  refine lcR s.T.ns.length (fun v => (rd s.told v).isEmpty) nt (by omega) (fun v H1 hv1 e1 Z N hz hN => ?_) fun D H1 hD e1 h1 => ⟨D, _, rfl, .inl ⟨SqL.of h1, fun p3 hp3 => q _ _ (e1.trans (Same.new hp3)) ⟨p3, rfl, SqT.of upd_same⟩⟩⟩
  refine ⟨rfl, _, rfl, _, rfl, _, _, rfl, a, p, s, v, rfl, hS.same e1, rfl, htl, fun H2 w e2 hw => ?_⟩
  obtain ⟨cw, rfl, hcw⟩ := hw
  refine ⟨by decide, fun p3 hp3 => eqNilT (same_t (Same.new hp3) hcw) (dpa_nt _) (ok_nts _) (SqT.of upd_same) ⟨_, rfl, ?_⟩⟩
  have : ((rd s.told v).map nt).isEmpty = (rd s.told v).isEmpty := by cases rd s.told v <;> rfl
  rw [this]
  exact tst (fun c => ⟨_, rfl, hz _ c (e2.trans (Same.new hp3))⟩) fun c => hN _ c (e2.trans (Same.new hp3))
theorem sc_left_to_write : FnScope ["store"] ["store"] (defScope s_left_to_write) := ⟨rfl, rfl, rfl, by decide +kernel, rfl, by decide +kernel, by decide +kernel⟩
theorem d_left_to_write {P : Program} {w : World} {K : PySem.W.Frag} {mg : Str → Option Value} {base : Heap} (W : Wd K mg base) : Dn P w K mg base 4 "left_to_write" (sp1 (mLeft K)) := by
  refine W.dn (st := s_left_to_write) (ps := ["store"]) 18 18 rfl rfl (fun _ _ _ _ _ _ us hl => match us, hl with | [_], _ => rfl) fun f fd F => ?_
  refine FunD.ok F sc_left_to_write (fun vs H Q E h => ?_) (fun cdv A outer s H vs Q E hr h => ?_)
  · obtain ⟨_, rfl, _⟩ := h; rfl
  have SC := W.sc
  obtain ⟨x, rfl, h⟩ := h
  refine ⟨_, PSs.nox (pss_one (ps_ret (pe_mt0 (dm_left W) SC (hr.mono (by decide)) (pv 0)))), ?_⟩
  rw [show L2.start ["store"] [x] = [some x] from rfl]
  obtain ⟨a, p, s, S, rfl, hS0, wf, hS, q⟩ := h
  obtain ⟨dx, l, v1, v2, v3, v4, v5, hs, hv⟩ := id hS0
  exact rtI ⟨_, rfl, a, dx, _, rfl, hs.slt, _, rfl, a, p, s, S, rfl, hS0, wf, hS, q⟩
end Wm
set_option Elab.async false
set_option linter.all false
set_option maxRecDepth 100000
set_option maxHeartbeats 4000000
/-! the Store made -/
namespace Wm
open PySem PySem.Spec PyProof.Rows L2
theorem h_cut {t : TS} {D : Ends} {σ : L2.St} {H : Hp} (Pp : Hp → Prop) (hp : Pp H) (h : ∀ H', Pp H' → t D σ H') : t D σ H := h H hp
theorem scm_init : FnScope ["self", "task", "plan", "stretch"] ["self", "task", "plan"] (defScope m_init) := ⟨rfl, rfl, rfl, by decide +kernel, rfl, by decide +kernel, by decide +kernel⟩
theorem dm_init {P : Program} {w : World} {K : PySem.W.Frag} {mg : Str → Option Value} {base : Heap} (W : Wd K mg base) : DnM P w K mg base 6 "__init__" (sp3 (mInit K)) := by
  refine W.dm (st := m_init) (ps := ["self", "task", "plan"]) 56 58 rfl rfl (fun _ _ _ _ _ _ us hl => match us, hl with | [_, _, _], _ => rfl) fun f fd F => ?_
  refine FunD.ok F scm_init (fun vs H Q E h => ?_) (fun cdv A outer s H vs Q E hr h => ?_)
  · obtain ⟨_, _, _, rfl, _⟩ := h; rfl
  have SC := W.sc
  have S0 := W.sl 0 (by decide)
  have S1 := W.sl 1 (by decide)
  have S2 := W.sl 2 (by decide)
  have S3 := W.sl 3 (by decide)
  have S4 := W.sl 4 (by decide)
  have S5 := W.sl 5 (by decide)
  have S6 := W.sl 6 (by decide)
  have S7 := W.sl 7 (by decide)
  have S8 := W.sl 8 (by decide)
  obtain ⟨x, y, z, rfl, h⟩ := h
  refine ⟨_, PSs.nox (pss_ini (C := SC0 K) (n := 9) (pss_cons (ps_if (pt_not (pt_val (pe_fn (d_is_task W) (hr.mono (by decide)) rfl (pa_cons (pv 1) pa_nil)))) (pss_one ps_never) pss_nil)
      (pss_cons (ps_if (PW.pt (pw_or (pt_not (pt_val (pe_fn (d_is_plan W) (hr.mono (by decide)) rfl (pa_cons (pe_callB (call_lenK (K := K)) rfl (W.free 71) PySem.boot_len (pa_cons (pe_ix (ix_any (K := K)) (pv 1) pe_int (fun _ _ => rfl)) pa_nil)) (pa_cons (pv 2) pa_nil))))) (pw_or1 (pt_not (pt_val (pe_fn (d_does W) (hr.mono (by decide)) rfl (pa_cons (pv 1) (pa_cons (pv 2) pa_nil)))))))) (pss_one ps_never) pss_nil)
      (pss_cons (ps_asg (pe_tup (pa_cons (pv 1) (pa_cons (pv 2) pa_nil))) (pg_tupK (K := K) (n := 2) rfl (pgs_cons (pg_sg SC (S5).choose_spec (pv 0)) (pgs_cons (pg_sg SC (S4).choose_spec (pv 0)) pgs_nil))))
      (pss_cons (ps_sg SC (S1).choose_spec (pv 0) (pe_lst (pa_cons (pe_ix (ix_any (K := K)) (pv 1) pe_int (fun _ _ => rfl)) pa_nil)))
      (pss_cons (ps_for PassesOwn.never rfl (pi_tupK (K := K) (pv 2)) (pg_name (i := 3) scm_init.nd rfl (Or.inl rfl)) (pss_one (ps_expr (pe_bmK (K := K) PySem.F.plainAttrs_list PySem.F.slot_list_append PySem.F.type_list_append mt_append (pe_sg SC (S1).choose_spec (pv 0)) (pa_cons (pe_fn (d_led W) (hr.mono (by decide)) rfl (pa_cons (pe_ix (ix_any (K := K)) (pe_sg SC (S1).choose_spec (pv 0)) (pe_un un_neg pe_int) (fun _ _ => rfl)) (pa_cons (pv 3) pa_nil))) pa_nil)))))
      (pss_cons (ps_asg (pe_tup (pa_cons pe_str (pa_cons pe_int pa_nil))) (pg_tupK (K := K) (n := 2) rfl (pgs_cons (pg_sg SC (S7).choose_spec (pv 0)) (pgs_cons (pg_sg SC (S0).choose_spec (pv 0)) pgs_nil))))
      (pss_cons (ps_asg (pe_tup (pa_cons (pe_ix (ix_any (K := K)) (pv 1) pe_int (fun _ _ => rfl)) (pa_cons (pe_tup pa_nil) (pa_cons (pe_tup pa_nil) pa_nil)))) (pg_tupK (K := K) (n := 3) rfl (pgs_cons (pg_sg SC (S6).choose_spec (pv 0)) (pgs_cons (pg_sg SC (S8).choose_spec (pv 0)) (pgs_cons (pg_sg SC (S2).choose_spec (pv 0)) pgs_nil)))))
      (pss_one (ps_sg SC (S3).choose_spec (pv 0) (pe_lst pa_nil))))))))))), ?_⟩
  obtain ⟨H0, a, dx, T, P, rfl, rfl, ha0, hdx0, hne, hT, hP, hok, q⟩ := h
  refine ⟨a, dx, upd_same, fun hne => ?_⟩
  have sto0 : Sto (SC0 K) dx a (List.replicate 9 none) (SlX.slH (upd (upd H0 dx (.own a)) a (.ins (SC0 K) dx [])) a (SC0 K) dx (List.replicate 9 none)) := by
    refine ⟨hne, ?_, ?_⟩
    · unfold SlX.slH; rw [upd_ne hne, upd_same]
    · unfold SlX.slH; rw [upd_same]
  have E0 : Same H0 (SlX.slH (upd (upd H0 dx (.own a)) a (.ins (SC0 K) dx [])) a (SC0 K) dx (List.replicate 9 none)) := by
    intro c u e
    unfold SlX.slH
    have h1 : c ≠ a := fun z => by rw [z, ha0] at e; cases e
    have h2 : c ≠ dx := fun z => by rw [z, hdx0] at e; cases e
    rw [upd_ne h1, upd_ne h2, upd_ne h1, upd_ne h2]; exact e
  generalize SlX.slH (upd (upd H0 dx (.own a)) a (.ins (SC0 K) dx [])) a (SC0 K) dx (List.replicate 9 none) = H1 at sto0 E0
  have hT1 := hT.mono E0
  have hP1 := hP.mono E0
  have hT0 := hT
  obtain ⟨t, y1, y2, y3, rfl, ht, hns, hold, hwish⟩ := hT.open
  obtain ⟨c2, rfl, hc2⟩ := hold
  obtain ⟨cp, xp, rfl, hcp, hPp⟩ := id hP
  have lo := hok.lo
  have ln := hok.ln
  have lp := hok.lp
  have hlen := hok.t.len
  refine sqI (ifI ⟨_, rfl, _, rfl, T, hT1, ⟨hok.t, by omega, by omega⟩, fun H2 e2 => ⟨true, rfl, tst_f rfl ?_⟩⟩)
  have E2 := E0.trans e2
  refine nxI ?_
  dsimp only
  refine sqI (ifI ⟨_, rfl, ixT (same_t E2 ht) rfl ⟨c2, _, rfl, .inr (same_t E2 hc2), _, rfl, _, _, rfl, T.old.length, P, ?_, hP1.mono e2, ⟨lp, hok.p.all (by omega)⟩, fun H3 e3 => ⟨true, rfl, tst_f rfl ⟨_, rfl, _, rfl, _, _, rfl, T, P, (hT1.mono e2).mono e3, (hP1.mono e2).mono e3, hok.p, by omega, lp, hlen.symm, hok.w, fun H4 e4 => ⟨true, rfl, tst_f rfl ?_⟩⟩⟩⟩⟩)
  · rw [List.length_map]
  have E4 := (E2.trans e3).trans e4
  have sto4 := sto_same ((e2.trans e3).trans e4) sto0
  refine nxI ?_
  dsimp only
  refine sqI (asI ⟨_, rfl, _, rfl, (by show 2 ≤ sizeLine; decide), fun p5 hp5 => ?_⟩)
  have s5 := Same.new (o := .tup [.ref t, .ref cp]) hp5
  have sto5 := sto_same s5 sto4
  refine ⟨p5, _, rfl, SqT.of upd_same, rfl, _, _, rfl, _, rfl, a, dx, _, rfl, sto5, (by show _ < 9; decide), _, _, rfl, _, rfl, a, dx, _, rfl, sto5.put, (by show _ < 9; decide), rfl, ?_⟩
  have sto6 : Sto (SC0 K) dx a [none, none, none, none, some (.ref cp), some (.ref t), none, none, none] (upd (upd (upd H4 p5 (.tup [.ref t, .ref cp])) a (SlX.SlO a (SC0 K) dx ((List.replicate 9 none).set 5 (some (.ref t))))) a (SlX.SlO a (SC0 K) dx (((List.replicate 9 none).set 5 (some (.ref t))).set 4 (some (.ref cp))))) := by rw [upd_upd]; exact sto5.put
  have E6 : Same H0 (upd (upd (upd H4 p5 (.tup [.ref t, .ref cp])) a (SlX.SlO a (SC0 K) dx ((List.replicate 9 none).set 5 (some (.ref t))))) a (SlX.SlO a (SC0 K) dx (((List.replicate 9 none).set 5 (some (.ref t))).set 4 (some (.ref cp))))) := Same.mut (Same.mut (E4.trans s5) ha0) ha0
  generalize upd (upd (upd H4 p5 (.tup [.ref t, .ref cp])) a (SlX.SlO a (SC0 K) dx ((List.replicate 9 none).set 5 (some (.ref t))))) a (SlX.SlO a (SC0 K) dx (((List.replicate 9 none).set 5 (some (.ref t))).set 4 (some (.ref cp)))) = H6 at sto6 E6 ⊢
  dsimp only
  refine sqI ⟨_, rfl, ixT (same_t E6 ht) rfl ⟨(by show 1 ≤ sizeLine; decide), fun l hl => ?_⟩⟩
  have s7 := Same.new (o := .lst [V.ref c2]) hl
  have sto7 := sto_same s7 sto6
  refine ⟨_, rfl, a, dx, _, rfl, sto7, (by show _ < 9; decide), ?_⟩
  have hla : l ≠ a := fun z => by rw [z, sto6.2.2] at hl; cases hl
  have sto8 : Sto (SC0 K) dx a [none, some (.ref l), none, none, some (.ref cp), some (.ref t), none, none, none] (upd (upd H6 l (.lst [V.ref c2])) a (SlX.SlO a (SC0 K) dx [none, some (.ref l), none, none, some (.ref cp), some (.ref t), none, none, none])) := sto7.put
  have E8 : Same H0 (upd (upd H6 l (.lst [V.ref c2])) a (SlX.SlO a (SC0 K) dx [none, some (.ref l), none, none, some (.ref cp), some (.ref t), none, none, none])) := Same.mut (E6.trans s7) ha0
  have l8 : upd (upd H6 l (.lst [V.ref c2])) a (SlX.SlO a (SC0 K) dx [none, some (.ref l), none, none, some (.ref cp), some (.ref t), none, none, none]) l = some (.lst [V.ref c2]) := by rw [upd_ne hla, upd_same]
  have hl0 : H0 l = none := ne_none_of E6 hl
  show tSeq _ _ _ _ (upd (upd H6 l (.lst [V.ref c2])) a (SlX.SlO a (SC0 K) dx [none, some (.ref l), none, none, some (.ref cp), some (.ref t), none, none, none]))
  generalize upd (upd H6 l (.lst [V.ref c2])) a (SlX.SlO a (SC0 K) dx [none, some (.ref l), none, none, some (.ref cp), some (.ref t), none, none, none]) = H8 at sto8 E8 l8 ⊢
  refine sqI ⟨_, rfl, cp, rfl, ⟨_, same_t E8 hcp⟩, for_tup (xs := xp) (fun i σ H' => ∃ ls, (∃ o3, σ = [some (.ref a), some (.ref t), some (.ref cp), o3]) ∧ Same H0 H' ∧ Sto (SC0 K) dx a [none, some (.ref l), none, none, some (.ref cp), some (.ref t), none, none, none] H' ∧ H' l = some (.lst ls) ∧ Paired (LyT K H') ls (lays T.old (P.take i))) ?_ ?_ ?_ ?_⟩
  · exact ⟨[.ref c2], ⟨_, rfl⟩, E8, sto8, l8, .cons ⟨c2, rfl, same_t E8 hc2⟩ .nil⟩
  · rintro i σ H' _ ⟨_, _, h, _⟩
    exact same_t h hcp
  · rintro i x σ H9 hx ⟨ls, ⟨o3, rfl⟩, E9, sto9, l9, hls⟩
    obtain ⟨S, hS, hSt⟩ := pd_get hPp hx
    have gS := goodP_all_at hok.p hS
    have hSl := gS.len
    have hll := lastL_len (P.take i) T.old
    have hil := (List.getElem?_eq_some_iff.mp hS).1
    have et : P.take (i + 1) = P.take i ++ [S] := by rw [List.take_add_one, hS]; rfl
    have hlst : (lays T.old (P.take i))[i]? = some (lastL T.old (P.take i)) := by
      rw [lays_get _ _ i (by rw [List.length_take]; omega), List.take_take, Nat.min_self]
    obtain ⟨z, hz, hzL⟩ := pd_at hls hlst
    have hlen2 : ls.length = i + 1 := by rw [hls.length, lays_len, List.length_take]; omega
    obtain ⟨zs, z', e⟩ := len_last (ls := ls) (fun e => by rw [e] at hlen2; simp at hlen2)
    have hlast : atI ls (-1) = some z := by
      subst e
      have : zs.length = i := by simpa using hlen2
      rw [List.getElem?_append_right (by omega), this, Nat.sub_self] at hz
      cases hz
      exact atI_last zs z
    refine ⟨_, rfl, a, dx, _, _, rfl, sto9, rfl, .inl ⟨rfl, _, SqL.of l9⟩, _, rfl, a, dx, _, _, rfl, sto9, rfl, _, rfl, ixL (SqL.of l9) hlast ⟨_, rfl, _, _, rfl, _, S, hzL, hSt.mono E9, by omega, by omega, gS.low, fun H10 v10 e10 hv10 => ?_⟩⟩
    have l10 := e10 _ _ l9
    have sto10 := sto_same e10 sto9
    refine ⟨l, ls, _, rfl, rfl, l10, by rw [hlen2]; show _ < 16777216; omega, ls ++ [v10], ⟨_, rfl⟩, Same.mut (E9.trans e10) hl0, ?_, upd_same, ?_⟩
    · refine ⟨sto10.1, ?_, ?_⟩
      · rw [upd_ne (ne_of sto10.2.1 l10 (by intro z; cases z))]; exact sto10.2.1
      · rw [upd_ne (Ne.symm hla)]; exact sto10.2.2
    · rw [et, lays_snoc]
      exact pd_snoc (lyT_mut l10 hv10) (lys_mut l10 (lys_mono e10 hls))
  · rintro σ H9 ⟨ls, ⟨o3, rfl⟩, E9, sto9, l9, hls⟩
    have ep : P.take xp.length = P := by rw [hPp.length, List.take_length]
    rw [ep] at hls
    dsimp only
    refine sqI (asI ⟨(by show 2 ≤ sizeLine; decide), fun p10 hp10 => ?_⟩)
    have s10 := Same.new (o := .tup [.str "on", .int 0]) hp10
    have sto10 := sto_same s10 sto9
    refine ⟨p10, _, rfl, SqT.of upd_same, rfl, _, _, rfl, _, rfl, a, dx, _, rfl, sto10, (by show _ < 9; decide), _, _, rfl, _, rfl, a, dx, _, rfl, sto10.put, (by show _ < 9; decide), rfl, ?_⟩
    have hvl : ∀ {vs ws : List (Option V)} {H' : Hp}, Sto (SC0 K) dx a vs H' → Sto (SC0 K) dx a ws (upd H' a (SlX.SlO a (SC0 K) dx ws)) := fun h => h.put
    have sto11 : Sto (SC0 K) dx a [some (nt 0), some (.ref l), none, none, some (.ref cp), some (.ref t), none, some (.str "on"), none] (upd (upd (upd H9 p10 (.tup [.str "on", .int 0])) a (SlX.SlO a (SC0 K) dx [none, some (.ref l), none, none, some (.ref cp), some (.ref t), none, some (.str "on"), none])) a (SlX.SlO a (SC0 K) dx [some (nt 0), some (.ref l), none, none, some (.ref cp), some (.ref t), none, some (.str "on"), none])) := by rw [upd_upd]; exact sto10.put
    have E11 : Same H0 (upd (upd (upd H9 p10 (.tup [.str "on", .int 0])) a (SlX.SlO a (SC0 K) dx [none, some (.ref l), none, none, some (.ref cp), some (.ref t), none, some (.str "on"), none])) a (SlX.SlO a (SC0 K) dx [some (nt 0), some (.ref l), none, none, some (.ref cp), some (.ref t), none, some (.str "on"), none])) := Same.mut (Same.mut (E9.trans s10) ha0) ha0
    have f9 : Far H9 a l := ⟨_, _, sto9.2.2, l9⟩
    have k11 : ∀ {x : V} {L : Lay}, LyT K H9 x L → LyT K (upd (upd (upd H9 p10 (.tup [.str "on", .int 0])) a (SlX.SlO a (SC0 K) dx [none, some (.ref l), none, none, some (.ref cp), some (.ref t), none, some (.str "on"), none])) a (SlX.SlO a (SC0 K) dx [some (nt 0), some (.ref l), none, none, some (.ref cp), some (.ref t), none, some (.str "on"), none])) x L := fun h => lyT_kp f9 ((Kp.of s10).trans (Kp.upa.trans Kp.upa)) h
    have l11 : (upd (upd (upd H9 p10 (.tup [.str "on", .int 0])) a (SlX.SlO a (SC0 K) dx [none, some (.ref l), none, none, some (.ref cp), some (.ref t), none, some (.str "on"), none])) a (SlX.SlO a (SC0 K) dx [some (nt 0), some (.ref l), none, none, some (.ref cp), some (.ref t), none, some (.str "on"), none])) l = some (.lst ls) := by rw [upd_ne hla, upd_ne hla]; exact s10 _ _ l9
    have hls11 := lys_kp f9 ((Kp.of s10).trans (Kp.upa.trans Kp.upa) : Kp a l H9 (upd (upd (upd H9 p10 (.tup [.str "on", .int 0])) a (SlX.SlO a (SC0 K) dx [none, some (.ref l), none, none, some (.ref cp), some (.ref t), none, some (.str "on"), none])) a (SlX.SlO a (SC0 K) dx [some (nt 0), some (.ref l), none, none, some (.ref cp), some (.ref t), none, some (.str "on"), none]))) hls
    dsimp only
    refine h_cut (fun H' => Sto (SC0 K) dx a [some (nt 0), some (.ref l), none, none, some (.ref cp), some (.ref t), none, some (.str "on"), none] H' ∧ Same H0 H' ∧ H' l = some (.lst ls) ∧ Paired (LyT K H') ls (lays T.old P)) ⟨sto11, E11, l11, hls11⟩ ?_
    clear k11 sto11 E11 l11 hls11
    rintro H11 ⟨sto11, E11, l11, hls11⟩
    refine sqI (asI ⟨_, rfl, ixT (same_t E11 ht) rfl ⟨by decide, fun pw hpw => ⟨by decide, fun pl hpl => ⟨(by show 3 ≤ sizeLine; decide), fun p12 hp12 => ?_⟩⟩⟩⟩)
    have tw := Same.new (o := .tup []) hpw
    have tl := Same.new (o := .tup []) hpl
    have t12 := Same.new (o := .tup [.ref c2, .ref pw, .ref pl]) hp12
    have e112 := tw.trans (tl.trans t12)
    have sto12 := sto_same e112 sto11
    refine ⟨p12, _, rfl, SqT.of upd_same, rfl, _, _, rfl, _, rfl, a, dx, _, rfl, sto12, (by show _ < 9; decide), _, _, rfl, _, rfl, a, dx, _, rfl, sto12.put, (by show _ < 9; decide), _, _, rfl, _, rfl, a, dx, _, rfl, (sto12.put.put), (by show _ < 9; decide), rfl, ?_⟩
    have gw : ∀ {H' : Hp}, Same H11 H' → True := fun _ => trivial
    have hw12 : (upd (upd (upd H11 pw (.tup [])) pl (.tup [])) p12 (.tup [.ref c2, .ref pw, .ref pl])) pw = some (.tup []) := t12 _ _ (tl _ _ upd_same)
    have hl12 : (upd (upd (upd H11 pw (.tup [])) pl (.tup [])) p12 (.tup [.ref c2, .ref pw, .ref pl])) pl = some (.tup []) := t12 _ _ upd_same
    have l12 := e112 _ _ l11
    have hls12 := lys_mono e112 hls11
    have E12 := E11.trans e112
    generalize upd (upd (upd H11 pw (.tup [])) pl (.tup [])) p12 (.tup [.ref c2, .ref pw, .ref pl]) = H12 at sto12 hw12 hl12 l12 hls12 E12 ⊢
    rw [upd_upd, upd_upd]
    have sto13 : Sto (SC0 K) dx a [some (nt 0), some (.ref l), some (.ref pl), none, some (.ref cp), some (.ref t), some (.ref c2), some (.str "on"), some (.ref pw)] (upd H12 a (SlX.SlO a (SC0 K) dx [some (nt 0), some (.ref l), some (.ref pl), none, some (.ref cp), some (.ref t), some (.ref c2), some (.str "on"), some (.ref pw)])) := sto12.put
    refine ⟨by decide, fun p hp => ?_⟩
    have hp12 : H12 p = none := by
      have hpa : p ≠ a := fun z => by rw [z, upd_same] at hp; cases hp
      rw [upd_ne hpa] at hp; exact hp
    have sp := Same.new (o := .lst []) hp
    have hap : a ≠ p := fun z => by rw [← z, upd_same] at hp; cases hp
    refine ⟨_, rfl, a, dx, _, rfl, sto_same sp sto13, (by show _ < 9; decide), q _ p (Same.mut ((Same.mut E12 ha0).trans sp) ha0) (ne_none_of E12 hp12) ⟨dx, l, .ref pl, .ref cp, .ref t, .ref c2, .ref pw, (sto_same sp sto13).put, ?_⟩⟩
    have f12 : Far H12 a l := ⟨_, _, sto12.2.2, l12⟩
    have kk : Kp a l H12 (upd (upd (upd H12 a (SlX.SlO a (SC0 K) dx [some (nt 0), some (.ref l), some (.ref pl), none, some (.ref cp), some (.ref t), some (.ref c2), some (.str "on"), some (.ref pw)])) p (.lst [])) a (SlX.SlO a (SC0 K) dx ([some (nt 0), some (.ref l), some (.ref pl), none, some (.ref cp), some (.ref t), some (.ref c2), some (.str "on"), some (.ref pw)].set 3 (some (.ref p))))) := Kp.upa.trans ((Kp.of sp).trans Kp.upa)
    have Ef : Same H0 (upd (upd (upd H12 a (SlX.SlO a (SC0 K) dx [some (nt 0), some (.ref l), some (.ref pl), none, some (.ref cp), some (.ref t), some (.ref c2), some (.str "on"), some (.ref pw)])) p (.lst [])) a (SlX.SlO a (SC0 K) dx ([some (nt 0), some (.ref l), some (.ref pl), none, some (.ref cp), some (.ref t), some (.ref c2), some (.str "on"), some (.ref pw)].set 3 (some (.ref p))))) := Same.mut ((Same.mut E12 ha0).trans sp) ha0
    have hlp : l ≠ p := ne_of_none l12 hp12
    refine ⟨⟨ls, ?_, lys_kp f12 kk hls12⟩, ⟨[], ?_, Nat.le_refl _⟩, ⟨pl, rfl, sqT_kp f12 kk (SqT.of hl12)⟩, hP.mono Ef, hT0.mono Ef, ⟨c2, rfl, ?_⟩, ⟨pw, rfl, sqT_kp f12 kk (SqT.of hw12)⟩, hlp⟩
    · rw [upd_ne hla, upd_ne hlp, upd_ne hla]; exact l12
    · rw [upd_ne (Ne.symm hap), upd_same]
    · have : (T.old.map some).map tlV = T.old.map it := by rw [List.map_map]; rfl
      show SqT K _ c2 ((T.old.map some).map tlV)
      rw [this]
      exact same_t Ef hc2
end Wm
set_option Elab.async false
set_option linter.all false
set_option maxRecDepth 100000
set_option maxHeartbeats 4000000
/-! data that is compared by == and by repr -/
namespace Wm
open PySem PySem.Spec PyProof.Rows L2
theorem short_nat : ∀ i < 1024, (PyData.leavesShort 8 (.int ((i : Nat) : Int))) = true := by decide +kernel
/-- data that repr takes -/
structure okA (d : PyData) : Prop where
  sh : SeqAt.shaped d = true
  sw : d.showable = true
  nd : d.hasDict = false
  dp : d.depth ≤ 8
  ln : d.shown.length ≤ sizeLine
/-- None, a small number, a word -/
inductive okF : PyData → Prop where
  | non : okF .none
  | int (i : Nat) (h : i < 1024) : okF (.int ((i : Nat) : Int))
  | q : okF (.str "?")
  | on : okF (.str "on")
theorem okF.parts {d : PyData} (h : okF d) : d.canLay0 = true ∧ d.depth = 0 ∧ d.showable = true ∧ d.hasDict = false ∧ d.leavesShort 8 = true ∧ d.weight ≤ 16 := by
  cases h with
  | non => exact ⟨by simp [PyData.canLay0], by simp [PyData.depth], by simp [PyData.showable], by simp [PyData.hasDict], by simp [PyData.leavesShort], by simp [PyData.weight]⟩
  | int i hi =>
    have hlog : i.log2 ≤ 10 := by
      by_cases h0 : i = 0
      · subst h0; decide
      · have := (Nat.log2_lt h0 (k := 11)).mpr (by omega)
        omega
    refine ⟨by simp [PyData.canLay0], by simp [PyData.depth], ?_, by simp [PyData.hasDict], short_nat i hi, ?_⟩
    · simp only [PyData.showable, Int.natAbs_natCast]
      exact decide_eq_true (by omega)
    · simp only [PyData.weight, Int.natAbs_natCast]
      split <;> omega
  | q => exact ⟨by decide +kernel, by simp [PyData.depth], by simp [PyData.showable], by simp [PyData.hasDict], by decide +kernel, by decide +kernel⟩
  | on => exact ⟨by decide +kernel, by simp [PyData.depth], by simp [PyData.showable], by simp [PyData.hasDict], by decide +kernel, by decide +kernel⟩
theorem okF.a {d : PyData} (h : okF d) : okA d := by
  obtain ⟨h1, h2, h3, h4, h5, h6⟩ := h.parts
  refine ⟨?_, h3, h4, by omega, PyData.shown_fits (B := 8) (by decide) (by decide) h5 (by omega)⟩
  unfold SeqAt.shaped
  rw [h1, decide_eq_true (show d.depth ≤ 64 by omega)]; rfl
theorem okF_all : ∀ {ds : List PyData}, (∀ d ∈ ds, okF d) → PyData.canLayAll0 ds = true ∧ PyData.depthAll ds = 0 ∧ PyData.showableAll ds = true ∧ PyData.hasDictAll ds = false ∧ PyData.leavesShortAll 8 ds = true ∧ PyData.weightAll ds ≤ 17 * ds.length
  | [], _ => ⟨by simp [PyData.canLayAll0], by simp [PyData.depthAll], by simp [PyData.showableAll], by simp [PyData.hasDictAll], by simp [PyData.leavesShortAll], by simp [PyData.weightAll]⟩
  | d :: ds, h => by
    obtain ⟨a1, a2, a3, a4, a5, a6⟩ := okF_all (ds := ds) fun x hx => h x (List.mem_cons_of_mem _ hx)
    obtain ⟨b1, b2, b3, b4, b5, b6⟩ := (h d List.mem_cons_self).parts
    refine ⟨by rw [PyData.canLayAll0, a1, b1]; rfl, by rw [PyData.depthAll, a2, b2]; rfl, by rw [PyData.showableAll, a3, b3]; rfl, by rw [PyData.hasDictAll, a4, b4]; rfl, by rw [PyData.leavesShortAll, a5, b5]; rfl, ?_⟩
    rw [PyData.weightAll, List.length_cons]
    omega
theorem okA_tup {ds : List PyData} (h : ∀ d ∈ ds, okF d) (hl : ds.length ≤ 1000) : okA (.tuple ds) := by
  obtain ⟨a1, a2, a3, a4, a5, a6⟩ := okF_all h
  refine ⟨?_, by rw [PyData.showable]; exact a3, by rw [PyData.hasDict]; exact a4, by rw [PyData.depth, a2]; decide, PyData.shown_fits (B := 8) (by decide) (by decide) (by rw [PyData.leavesShort]; exact a5) (by rw [PyData.weight]; omega)⟩
  unfold SeqAt.shaped
  rw [PyData.canLay0, a1, PyData.depth, a2]; rfl
theorem eqv_okF {d e : PyData} (h : okF d) (g : okF e) : PyData.eqv d e = true ↔ d = e := by
  cases h <;> cases g <;> simp [PyData.eqv]
  all_goals first | (decide +kernel) | skip
theorem eqvAll_okF : ∀ {ds es : List PyData}, (∀ d ∈ ds, okF d) → (∀ d ∈ es, okF d) → (PyData.eqvAll ds es = true ↔ ds = es)
  | [], [], _, _ => by simp [PyData.eqvAll]
  | [], _ :: _, _, _ => by simp [PyData.eqvAll]
  | _ :: _, [], _, _ => by simp [PyData.eqvAll]
  | d :: ds, e :: es, h, g => by
    rw [PyData.eqvAll, Bool.and_eq_true, eqv_okF (h d List.mem_cons_self) (g e List.mem_cons_self), eqvAll_okF (fun x hx => h x (List.mem_cons_of_mem _ hx)) (fun x hx => g x (List.mem_cons_of_mem _ hx))]
    simp
theorem eqv_tup {ds es : List PyData} (h : ∀ d ∈ ds, okF d) (g : ∀ d ∈ es, okF d) : PyData.eqv (.tuple ds) (.tuple es) = true ↔ PyData.tuple ds = .tuple es := by
  rw [PyData.eqv, eqvAll_okF h g]
  simp
end Wm
set_option Elab.async false
set_option linter.all false
set_option maxRecDepth 100000
set_option maxHeartbeats 4000000
/-! alike -/
namespace Wm
open PySem PySem.Spec PyProof.Rows L2
def pAlike (K : PySem.W.Frag) (x y : V) (H : Hp) (Q : VK) : Prop := ∃ d e, Dp K H x d ∧ Dp K H y e ∧ okA d ∧ okA e ∧ (PyData.eqv d e = true → d = e) ∧ (d = e → PyData.eqv d e = true) ∧ (d = e → Q (.bl true) H) ∧ (d ≠ e → Q (.bl false) H)
theorem sc_law_alike : FnScope ["_law_found", "_law_due"] ["_law_found", "_law_due"] (defScope s_law_alike) := ⟨rfl, rfl, rfl, by decide +kernel, rfl, by decide +kernel, by decide +kernel⟩
theorem d_law_alike {P : Program} {w : World} {K : PySem.W.Frag} {mg : Str → Option Value} {base : Heap} (W : Wd K mg base) : DnG P w K mg base 1 "_law_alike" (sp2 (pAlike K)) := by
  refine W.dnG (st := s_law_alike) (ps := ["_law_found", "_law_due"]) 23 23 rfl rfl (fun _ _ _ _ _ _ us hl => match us, hl with | [_, _], _ => rfl) fun f fd F => ?_
  refine FnG.ofD F sc_law_alike (fun vs H Q E h => ?_) (fun cdv A outer s H vs Q E hg hr h => ?_)
  · obtain ⟨_, _, rfl, _⟩ := h; rfl
  have hu := hr.units
  obtain ⟨x, y, rfl, h⟩ := h
  refine ⟨_, PSs.nox (pss_one (ps_ret (pe_and (pe_cmpR (op_eqA hu (K := K)) (pv 0) (pv 1) (nomark _)) (pe_one (pe_cmpR (op_eqA hu (K := K)) (pe_callB (cr_repr hg hu) rfl (W.free 85) boot_repr (pa_cons (pv 0) pa_nil)) (pe_callB (cr_repr hg hu) rfl (W.free 85) boot_repr (pa_cons (pv 1) pa_nil)) (nomark _)))))), ?_⟩
  rw [show L2.start ["_law_found", "_law_due"] [x, y] = [some x, some y] from rfl]
  obtain ⟨d, e, hd, he, od, oe, h1, h2, q1, q2⟩ := h
  refine rtI ⟨_, rfl, _, rfl, .inr ⟨d, e, hd, he, od.sh, oe.sh, _, rfl, ?_⟩⟩
  cases hq : PyData.eqv d e with
  | true =>
    have hde := h1 hq
    subst hde
    refine tst_t rfl ⟨_, rfl, _, d, rfl, hd, od.sw, od.nd, od.dp, od.ln, _, rfl, _, d, rfl, he, od.sw, od.nd, od.dp, od.ln, .inl ⟨rfl, ?_⟩⟩
    rw [decide_eq_true rfl]
    exact q1 rfl
  | false => exact tst_f rfl (q2 fun z => by rw [h2 z] at hq; cases hq)
end Wm
set_option Elab.async false
set_option linter.all false
set_option maxRecDepth 100000
set_option maxHeartbeats 4000000
/-! plain: a stretch is walked -/
namespace Wm
open PySem PySem.Spec PyProof.Rows L2
/-- outside some places the layout is told -/
def Out (t : List Tl) (L : Lay) (P : List Nat) : Prop := t.length = L.length ∧ ∀ i, i ∉ P → t[i]? = L[i]?.map some
/-- what is told stands in the contents -/
def Cont (t : List Tl) (cs : List Int) : Prop := cs.length = t.length ∧ ∀ (i v : Nat), t[i]? = some (some (some v)) → cs[i]? = some (1000 + (v : Int))
theorem rd_count (v : Nat) (P : List Nat) : ∀ (t : List Tl) (L : Lay) (k : Nat), t.length = L.length → (∀ i, k + i ∉ P → t[i]? = L[i]?.map some) →
    (selF (fun i (_ : Option Nat) => !P.contains i) (fun _ o => o) k L).count (some v) ≤ (selF (fun _ (x : Tl) => decide (tlV x = nt v)) (fun i _ => i) k t).length
  | [], [], _, _, _ => Nat.le_refl _
  | [], _ :: _, _, h, _ => by simp at h
  | _ :: _, [], _, h, _ => by simp at h
  | x :: t, o :: L, k, hl, h => by
    have ih := rd_count v P t L (k + 1) (by simpa using hl) fun i hi => by
      have := h (i + 1) (by rwa [show k + (i + 1) = k + 1 + i by omega])
      simpa using this
    show (if !P.contains k then o :: selF (fun i (_ : Option Nat) => !P.contains i) (fun _ o => o) (k + 1) L else selF (fun i (_ : Option Nat) => !P.contains i) (fun _ o => o) (k + 1) L).count (some v) ≤ (if decide (tlV x = nt v) then k :: selF (fun _ (x : Tl) => decide (tlV x = nt v)) (fun i _ => i) (k + 1) t else selF (fun _ (x : Tl) => decide (tlV x = nt v)) (fun i _ => i) (k + 1) t).length
    by_cases hk : k ∈ P
    · rw [List.contains_iff_mem.mpr hk]
      simp only [Bool.not_true, Bool.false_eq_true, if_false]
      split
      · rw [List.length_cons]; omega
      · exact ih
    · have hc : P.contains k = false := by simpa using hk
      rw [hc]
      simp only [Bool.not_false, if_true]
      have h0 := h 0 (by simpa using hk)
      simp at h0
      subst h0
      rw [List.count_cons]
      by_cases ho : o = some v
      · subst ho
        have e : decide (tlV (some (some v)) = nt v) = true := decide_eq_true rfl
        rw [e, if_pos rfl, if_pos (by simp), List.length_cons]
        omega
      · rw [if_neg (by simpa using ho)]
        split
        · rw [List.length_cons]; omega
        · exact ih
theorem rd_many {ns : List Nat} {t : List Tl} {L : Lay} {P : List Nat} (h : Out t L P) (s : Safe ns L P) {v n : Nat} (hv : ns[v]? = some n) : n ≤ (rd t v).length := by
  have := rd_count v P t L 0 h.1 fun i hi => h.2 i (by simpa using hi)
  have h2 := s v n hv
  exact Nat.le_trans h2 this
theorem mem_rd {t : List Tl} {v i : Nat} : i ∈ rd t v ↔ t[i]? = some (some (some v)) := by
  rw [rd, mem_pos]
  constructor
  · rintro ⟨x, h1, h2⟩
    have h3 := of_decide_eq_true h2
    cases x with
    | none => cases h3
    | some o =>
      have := it_some.mp h3
      subst this
      exact h1
  · intro h
    exact ⟨_, h, decide_eq_true rfl⟩
/-- a stretch under way: s at the entry, s' now -/
structure Wk (s s' : Sst) (S : Stretch) (cs : List Int) (c : Nat) : Prop where
  fu : s'.n + c ≤ 10000000
  T : s'.T = s.T
  P : s'.P = s.P
  ix : s'.ix = s.ix
  on : s'.on = s.on
  wf : Wf s'
  out : Out s'.told (lastL s.T.old (s.P.take s.ix)) (plc S)
  ins : ∀ i ∈ plc S, s'.told[i]? = some none ∨ s'.told[i]? = some (some ((lastL s.T.old (s.P.take s.ix)).getD i none)) ∨ s'.told[i]? = some (some (wantAt s i))
  wh : ∀ k ∈ s'.whole, k ∈ plc S ∧ s'.told[k]? = some (some (wantAt s k))
  cont : Cont s'.told cs
theorem wantAt_eq {s : Sst} {S : Stretch} (h : s.P[s.ix]? = some S) (i : Nat) : wantAt s i = (ledS (lastL s.T.old (s.P.take s.ix)) S).getD i none := by
  unfold wantAt
  rw [List.take_add_one, h]
  show (lastL s.T.old (s.P.take s.ix ++ [S])).getD i none = _
  rw [lastL_snoc]
section
variable {s s' : Sst} {S : Stretch} {cs : List Int} {c : Nat}
theorem Wk.gs (h : Wk s s' S cs c) (hS : s.P[s.ix]? = some S) : GoodS s.T.ns (lastL s.T.old (s.P.take s.ix)) S := by
  have g := h.wf.gp
  rw [h.T, h.P] at g
  exact goodP_all_at g hS
theorem Wk.src (h : Wk s s' S cs c) (hS : s.P[s.ix]? = some S) {i : Nat} (hi : i ∈ plc S) (hw : wantAt s i ≠ none) : ∃ j, s'.told[j]? = some (some (wantAt s i)) ∧ j ∉ plc S := by
  have g := h.gs hS
  obtain ⟨q, hq, rfl⟩ := List.mem_map.mp hi
  have hlow := g.low q hq
  have e : wantAt s q.1 = (lastL s.T.old (s.P.take s.ix)).getD q.2 none := by
    rw [wantAt_eq hS, List.getD_eq_getElem?_getD, ledS_in g.nd hq hlow.1]; rfl
  refine ⟨q.2, ?_, g.src q hq⟩
  rw [h.out.2 _ (g.src q hq), getD_get hlow.2, e]; rfl
theorem right_at {ns : List Nat} {L : Lay} {P : Plan} (r : Right ns L) (g : GoodP ns L P) (i : Nat) : Right ns (lastL L (P.take i)) := by
  have h1 := (goodP_app (P.take i) (P.drop i) L).mp (by rw [List.take_append_drop]; exact g)
  exact right_last r h1.1
theorem Wk.small (h : Wk s s' S cs c) (hr : Right s.T.ns s.T.old) : ∀ (i v : Nat), s'.told[i]? = some (some (some v)) → v < s.T.ns.length := by
  intro i v hv
  have g := h.wf.gp
  rw [h.T, h.P] at g
  have r1 := right_at hr g s.ix
  have r2 := right_at hr g (s.ix + 1)
  by_cases hi : i ∈ plc S
  · rcases h.ins i hi with e | e | e
    · rw [e] at hv; cases hv
    · rw [e] at hv
      have : (lastL s.T.old (s.P.take s.ix)).getD i none = some v := by simpa using hv
      exact r1.val v (List.mem_of_getElem? (getD_some.mp this))
    · rw [e] at hv
      have : wantAt s i = some v := by simpa using hv
      exact r2.val v (List.mem_of_getElem? (getD_some.mp this))
  · rw [h.out.2 i hi] at hv
    cases hL : (lastL s.T.old (s.P.take s.ix))[i]? with
    | none => rw [hL] at hv; cases hv
    | some o =>
      rw [hL] at hv
      have : o = some v := by simpa using hv
      subst this
      exact r1.val v (List.mem_of_getElem? hL)
theorem Wk.want (h : Wk s s' S cs c) (i : Nat) : wantAt s' i = wantAt s i := by
  unfold wantAt
  rw [h.T, h.P, h.ix]
theorem Wk.written {i : Nat} {w : List Nat} {cs' : List Int} (h : Wk s s' S cs (c + 1)) (hi : i ∈ plc S) (hil : i < s'.told.length) (hn : w.Nodup) (hw : ∀ k, k ∈ w ↔ k = i ∨ k ∈ s'.whole) (hc : Cont (s'.told.set i (some (wantAt s' i))) cs') :
    Wk s { s' with told := s'.told.set i (some (wantAt s' i)), whole := w, n := s'.n + 1 } S cs' c := by
  have hf := h.fu
  have hwf := h.wf
  have hl : (s'.told.set i (some (wantAt s' i))).length = s'.told.length := List.length_set
  have hwh : ∀ k ∈ w, k ∈ plc S ∧ (s'.told.set i (some (wantAt s' i)))[k]? = some (some (wantAt s k)) := fun k hk => by
    by_cases e : i = k
    · subst e
      exact ⟨hi, by rw [List.getElem?_set_self hil, h.want]⟩
    · rw [List.getElem?_set_ne e]
      rcases (hw k).mp hk with z | z
      · exact absurd z.symm e
      · exact h.wh k z
  refine ⟨by show s'.n + 1 + c ≤ _; omega, h.T, h.P, h.ix, h.on, ⟨hn, fun k hk => ?_, by show _ = _; rw [hl]; exact hwf.tl, hwf.l1, hwf.l2, hwf.l3, hwf.gp, by show s'.n + 1 ≤ _; omega⟩, ⟨by show _ = _; rw [hl]; exact h.out.1, fun k hk => ?_⟩, fun k hk => ?_, hwh, hc⟩
  · show k < (s'.told.set i (some (wantAt s' i))).length
    exact (List.getElem?_eq_some_iff.mp (hwh k hk).2).1
  · show (s'.told.set i (some (wantAt s' i)))[k]? = _
    rw [List.getElem?_set_ne (fun z : i = k => hk (by rw [← z]; exact hi))]
    exact h.out.2 k hk
  · show (s'.told.set i (some (wantAt s' i)))[k]? = _ ∨ (s'.told.set i (some (wantAt s' i)))[k]? = _ ∨ (s'.told.set i (some (wantAt s' i)))[k]? = _
    by_cases e : i = k
    · subst e
      exact .inr (.inr (by rw [List.getElem?_set_self hil, h.want]))
    · rw [List.getElem?_set_ne e]
      exact h.ins k hk
theorem Cont.clear {t : List Tl} {cs cs' : List Int} {i : Nat} (h : Cont t cs) (hl : cs'.length = cs.length) (he : ∀ k, k ≠ i → cs'[k]? = cs[k]?) : Cont (t.set i none) cs' := by
  refine ⟨by rw [hl, List.length_set]; exact h.1, fun k v hk => ?_⟩
  by_cases e : i = k
  · subst e
    by_cases hlt : i < t.length
    · rw [List.getElem?_set_self hlt] at hk; cases hk
    · rw [List.getElem?_eq_none (by rw [List.length_set]; omega)] at hk; cases hk
  · rw [List.getElem?_set_ne e] at hk
    rw [he k (Ne.symm e)]
    exact h.2 k v hk
theorem Wk.spoil {i : Nat} {cs' : List Int} (h : Wk s s' S cs (c + 1)) (hi : i ∈ plc S) (hil : i < s'.told.length) (hc : Cont (s'.told.set i none) cs') :
    Wk s { s' with told := s'.told.set i none, whole := s'.whole.filter fun k => !decide (k = i), n := s'.n + 1 } S cs' c := by
  have hf := h.fu
  have hwf := h.wf
  have hl : (s'.told.set i none).length = s'.told.length := List.length_set
  have hwh : ∀ k ∈ s'.whole.filter (fun k => !decide (k = i)), k ∈ plc S ∧ (s'.told.set i none)[k]? = some (some (wantAt s k)) := fun k hk => by
    obtain ⟨h1, h2⟩ := List.mem_filter.mp hk
    have e : i ≠ k := fun z => by rw [z] at h2; simp at h2
    rw [List.getElem?_set_ne e]
    exact h.wh k h1
  refine ⟨by show s'.n + 1 + c ≤ _; omega, h.T, h.P, h.ix, h.on, ⟨hwf.nd.filter _, fun k hk => ?_, by show _ = _; rw [hl]; exact hwf.tl, hwf.l1, hwf.l2, hwf.l3, hwf.gp, by show s'.n + 1 ≤ _; omega⟩, ⟨by show _ = _; rw [hl]; exact h.out.1, fun k hk => ?_⟩, fun k hk => ?_, hwh, hc⟩
  · show k < (s'.told.set i none).length
    exact (List.getElem?_eq_some_iff.mp (hwh k hk).2).1
  · show (s'.told.set i none)[k]? = _
    rw [List.getElem?_set_ne (fun z : i = k => hk (by rw [← z]; exact hi))]
    exact h.out.2 k hk
  · show (s'.told.set i none)[k]? = _ ∨ (s'.told.set i none)[k]? = _ ∨ (s'.told.set i none)[k]? = _
    by_cases e : i = k
    · subst e
      exact .inl (by rw [List.getElem?_set_self hil])
    · rw [List.getElem?_set_ne e]
      exact h.ins k hk
theorem Wk.cut {t : List Tl} {cs' : List Int} (h : Wk s s' S cs (c + 1)) (hl : t.length = s'.told.length) (hin : ∀ i, i ∈ plc S → t[i]? = some none) (hout : ∀ i, i ∉ plc S → t[i]? = s'.told[i]?) (hc : Cont t cs') :
    Wk s { s' with told := t, whole := [], n := s'.n + 1 } S cs' c := by
  have hf := h.fu
  have hwf := h.wf
  exact ⟨by show s'.n + 1 + c ≤ _; omega, h.T, h.P, h.ix, h.on, ⟨List.nodup_nil, fun k hk => (by cases hk), by show _ = _; rw [hl]; exact hwf.tl, hwf.l1, hwf.l2, hwf.l3, hwf.gp, by show s'.n + 1 ≤ _; omega⟩, ⟨by show _ = _; rw [hl]; exact h.out.1, fun k hk => by rw [hout k hk]; exact h.out.2 k hk⟩, fun k hk => .inl (hin k hk), fun k hk => (by cases hk), hc⟩
theorem Wk.weak {c' : Nat} (h : Wk s s' S cs c) (hc : c' ≤ c) : Wk s s' S cs c' := ⟨by have := h.fu; omega, h.T, h.P, h.ix, h.on, h.wf, h.out, h.ins, h.wh, h.cont⟩
end
end Wm
set_option Elab.async false
set_option linter.all false
set_option maxRecDepth 100000
set_option maxHeartbeats 4000000
/-! readable -/
namespace Wm
open PySem PySem.Spec PyProof.Rows L2
def tlD : Tl → PyData
  | none => .str "?"
  | some o => itD o
def Small (t : List Tl) : Prop := ∀ i v : Nat, t[i]? = some (some (some v)) → v < 1024
theorem dp_tl {K : PySem.W.Frag} {H : Hp} (t : Tl) : Dp K H (tlV t) (tlD t) := by
  cases t with
  | none => exact .str _
  | some o => exact dp_it o
theorem okF_it {o : Option Nat} (h : ∀ v, o = some v → v < 1024) : okF (itD o) := by
  cases o with
  | none => exact .non
  | some v => exact .int v (h v rfl)
theorem okF_tl {t : Tl} (h : ∀ v, t = some (some v) → v < 1024) : okF (tlD t) := by
  cases t with
  | none => exact .q
  | some o => exact okF_it fun v e => h v (by rw [e])
theorem tlD_inj {t u : Tl} : tlD t = tlD u ↔ t = u := by
  cases t with
  | none =>
    cases u with
    | none => simp
    | some o => cases o <;> simp [tlD, itD]
  | some x =>
    cases u with
    | none => cases x <;> simp [tlD, itD]
    | some y => cases x <;> cases y <;> simp [tlD, itD] <;> omega
theorem alike_tl {K : PySem.W.Frag} {H : Hp} {t u : Tl} {Q : VK} (ht : ∀ v, t = some (some v) → v < 1024) (hu : ∀ v, u = some (some v) → v < 1024) (q : Q (.bl (decide (t = u))) H) : sp2 (pAlike K) [tlV t, tlV u] H Q E0 := by
  have f1 := okF_tl ht
  have f2 := okF_tl hu
  refine ⟨_, _, rfl, tlD t, tlD u, dp_tl t, dp_tl u, f1.a, f2.a, (eqv_okF f1 f2).mp, (eqv_okF f1 f2).mpr, fun h => ?_, fun h => ?_⟩
  · rw [decide_eq_true (tlD_inj.mp h)] at q; exact q
  · rw [decide_eq_false (fun z => h (tlD_inj.mpr z))] at q; exact q
theorem okF_nts {P : List Nat} (h : ∀ i ∈ P, i < 1024) : ∀ d ∈ P.map (fun n => PyData.int ((n : Nat) : Int)), okF d := fun d hd => by
  obtain ⟨i, hi, rfl⟩ := List.mem_map.mp hd
  exact .int i (h i hi)
def pReadable (K : PySem.W.Frag) (x y z : V) (H : Hp) (Q : VK) : Prop := ∃ a p s cs, x = .ref a ∧ SoR K H a p s ∧ Nd K H y s.T.ns ∧ CsT K H z cs ∧ s.told.length ≤ 100 ∧ s.T.ns.length ≤ 100 ∧ Small s.told ∧ Cont s.told cs ∧ (∀ n ∈ s.T.ns, 1 ≤ n) ∧
  (∀ v n : Nat, s.T.ns[v]? = some n → n ≤ (rd s.told v).length) ∧ ∀ H', Same H H' → Q (.bl true) H'
theorem sc_law_is_readable : FnScope ["_law_store", "_law_needs_here", "_law_contents", "_law_told", "_law_at", "_law_item", "_law_value", "_law_need", "_law_its"] ["_law_store", "_law_needs_here", "_law_contents"] (defScope s_law_is_readable) := ⟨rfl, rfl, rfl, by decide +kernel, rfl, by decide +kernel, by decide +kernel⟩
theorem d_law_is_readable {P : Program} {w : World} {K : PySem.W.Frag} {mg : Str → Option Value} {base : Heap} (W : Wd K mg base) : DnG P w K mg base 3 "_law_is_readable" (sp3 (pReadable K)) := by
  refine W.dnG (st := s_law_is_readable) (ps := ["_law_store", "_law_needs_here", "_law_contents"]) 52 52 rfl rfl (fun _ _ _ _ _ _ us hl => match us, hl with | [_, _, _], _ => rfl) fun f fd F => ?_
  refine FnG.ofD F sc_law_is_readable (fun vs H Q E h => ?_) (fun cdv A outer s H vs Q E hg hr h => ?_)
  · obtain ⟨_, _, _, rfl, _⟩ := h; rfl
  have hu := hr.units
  obtain ⟨x, y, z, rfl, h⟩ := h
  refine ⟨_, PSs.nox (pss_cons (ps_set (i := 3) sc_law_is_readable.nd rfl (Or.inl rfl) (pe_fnG (d_shown W).g hg (hr.mono (by decide)) rfl (pa_cons (pv 0) pa_nil)))
      (pss_cons (ps_for PassesOwn.never rfl (pi_enumT rfl (W.free 78) (pa_cons (pv 1) pa_nil)) (pg_tupK (K := K) (n := 2) rfl (pgs_cons (pg_name (i := 6) sc_law_is_readable.nd rfl (Or.inr rfl)) (pgs_cons (pg_name (i := 7) sc_law_is_readable.nd rfl (Or.inl rfl)) pgs_nil))) (pss_cons (ps_setLc (i := 8) (own := [("_law_at", 4), ("_law_item", 5)]) rfl sc_law_is_readable.nd rfl rfl (sw_true rfl rfl rfl (by decide +kernel)) (pi_enumT rfl (W.free 78) (pa_cons (pv 3) pa_nil)) (blkOk_by (by kernel_rfl)) (fun _ _ _ _ _ => (pg_tupK (K := K) (n := 2) rfl (pgs_cons (pg_name (i := 4) sc_law_is_readable.nd rfl (Or.inl rfl)) (pgs_cons (pg_name (i := 5) sc_law_is_readable.nd rfl (Or.inl rfl)) pgs_nil)))) (fun _ _ _ _ _ => (pts_one (pt_val (pe_fnG (d_law_alike W) hg (hr.mono (by decide)) rfl (pa_cons (pv 5) (pa_cons (pv 6) pa_nil)))))) (fun _ _ _ _ _ => (pv 4)))
      (pss_cons (ps_if (PW.pt (pw_or (pt_cmpR op_lt (pe_callB (call_lenK (K := K)) rfl (W.free 71) PySem.boot_len (pa_cons (pv 8) pa_nil)) (pv 7) (nomark _)) (pw_or1 (pt_not (pt_val (pe_fnG (d_law_alike W) hg (hr.mono (by decide)) rfl (pa_cons (pe_fnG (d_readers W).g hg (hr.mono (by decide)) rfl (pa_cons (pv 0) (pa_cons (pv 6) pa_nil))) (pa_cons (pe_callTy call_tuple_of rfl (W.free 76) boot_tuple (pa_cons (pv 8) pa_nil)) pa_nil)))))))) (pss_one (ps_ret pe_bl)) pss_nil)
      (pss_one (ps_if (pt_cmpR (op_neA hu (K := K)) (pe_lc (own := [("_law_at", 4)]) rfl sc_law_is_readable.nd (pi_listK (K := K) (pv 8)) (blkOk_by (by kernel_rfl)) (fun _ _ _ _ _ => (pg_name (i := 4) sc_law_is_readable.nd rfl (Or.inl rfl))) (fun _ _ _ _ _ => (pts_one (pt_cmpR (op_neA hu (K := K)) (pe_ix (ix_any (K := K)) (pv 2) (pv 4) (fun _ _ => rfl)) (pe_op (op_addA (K := K)) pe_int (pv 6)) (nomark _)))) (fun _ _ _ _ _ => (pv 4))) (pe_lst pa_nil) (nomark _)) (pss_one (ps_ret pe_bl)) pss_nil)))))
      (pss_one (ps_ret (pe_cmpR (op_eqA hu (K := K)) (pe_fnG (d_untold W).g hg (hr.mono (by decide)) rfl (pa_cons (pv 0) pa_nil)) (pe_tup pa_nil) (nomark _)))))), ?_⟩
  rw [show L2.start ["_law_store", "_law_needs_here", "_law_contents", "_law_told", "_law_at", "_law_item", "_law_value", "_law_need", "_law_its"] [x, y, z] = [some x, some y, some z, none, none, none, none, none, none] from rfl]
  obtain ⟨a, p, s, cs, rfl, hS, ⟨c, rfl, hc⟩, ⟨k, rfl, hk⟩, htl, hnl, hsm, hcont, hpos, hmany, q⟩ := h
  refine sqI (asI ⟨_, rfl, _, rfl, a, p, s, rfl, hS, fun vt hvt => ?_⟩)
  obtain ⟨ct, rfl, hct⟩ := hvt
  have hrl : ∀ v, (rd s.told v).length ≤ 100 := fun v => by
    have : (rd s.told v).length ≤ s.told.length := selF_len _ _ s.told 0
    omega
  dsimp only [gName, List.set_cons_succ, List.set_cons_zero]
  refine sqI ⟨_, rfl, c, _, rfl, hc, for_it (walk_enumT (xs := s.T.ns.map nt)) (fun i σ H' => (∃ o6 o7 o8, σ = [some (.ref a), some (.ref c), some (.ref k), some (.ref ct), none, none, o6, o7, o8]) ∧ Same H H') ?_ ?_ ?_ ?_⟩
  · exact ⟨⟨_, _, _, rfl⟩, Same.refl _⟩
  · exact fun i σ H' _ hP => same_t hP.2 hc
  · rintro v x σ H1 H2 hv ⟨⟨o6, o7, o8, rfl⟩, e1⟩ ⟨T, x1, x2, rfl, hT, rfl, h1, h2⟩
    dsimp only at h1 h2
    cases h1
    have hv' : v < s.T.ns.length := by simpa using hv
    have hvn : s.T.ns[v]? = some s.T.ns[v] := List.getElem?_eq_getElem hv'
    rw [List.getElem?_map, hvn] at h2
    cases h2
    have e2 := e1.trans (Same.new (o := .tup [V.int (v : Nat), nt s.T.ns[v]]) hT)
    refine ⟨T, _, rfl, SqT.of upd_same, rfl, _, _, rfl, _, _, rfl, rfl, ?_⟩
    generalize upd H1 T (.tup [V.int (v : Nat), nt s.T.ns[v]]) = H2 at e2
    refine sqI (asI (lcI ⟨_, rfl, ct, _, rfl, same_t e2 hct, lcE s.told tlV (fun _ t => decide (tlV t = nt v)) (fun j _ => nt j) (same_t e2 hct) (by omega) (fun j t T' H3 hx e3 hT' Z N hz hN => ?_) fun D H3 hD e3 h3 => ?_⟩))
    · refine ⟨T', _, rfl, SqT.of upd_same, rfl, _, _, rfl, _, _, rfl, rfl, rfl, _, rfl, _, rfl, alike_tl (t := t) (u := some (some v)) (fun w hw => hsm j w (by rw [hx, hw])) (fun w hw => by cases hw; omega) ⟨_, rfl, ?_⟩⟩
      have e9 : decide (t = some (some v)) = decide (tlV t = nt v) := decide_eq_decide.mpr (tl_eq (o := some v)).symm
      rw [e9]
      exact tst (fun c => ⟨_, rfl, hz _ c (Same.new hT')⟩) fun c => hN _ c (Same.new hT')
    have hrd : H3 D = some (.lst ((rd s.told v).map nt)) := by rw [h3]; exact congrArg (fun z => some (HO.lst z)) (pos_nt _ s.told)
    have e23 := e2.trans e3
    dsimp only [gName, List.set_cons_succ, List.set_cons_zero]
    refine sqI (ifI ⟨_, rfl, D, _, rfl, .inl (SqL.of hrd), _, rfl, _, _, rfl, rfl, false, ?_, tst_f rfl ⟨_, rfl, _, rfl, _, _, rfl, a, p, s, v, rfl, hS.same e23, rfl, htl, fun H4 w e4 hw => ?_⟩⟩)
    · dsimp only
      rw [List.length_map, decide_eq_false (show ¬ ((rd s.told v).length : Int) < (s.T.ns[v] : Int) by have := hmany v _ hvn; omega)]
    obtain ⟨cw, rfl, hcw⟩ := hw
    refine ⟨_, rfl, D, _, rfl, .inl ⟨SqL.of (e4 _ _ hrd), fun l hl => ?_⟩⟩
    have t5 := Same.new (o := .tup ((rd s.told v).map nt)) hl
    have hsmall : ∀ i ∈ rd s.told v, i < 1024 := fun i hi => by
      have := (List.getElem?_eq_some_iff.mp (mem_rd.mp hi)).1
      omega
    have oks := okF_nts hsmall
    have okt := okA_tup oks (by rw [List.length_map]; have := hrl v; omega)
    refine ⟨_, _, rfl, _, _, .tup (same_t t5 hcw) (dpa_nt _), .tup (SqT.of upd_same) (dpa_nt _), okt, okt, (eqv_tup oks oks).mp, (eqv_tup oks oks).mpr, fun _ => ⟨true, rfl, tst_f rfl ?_⟩, fun h => absurd rfl h⟩
    have e25 := e23.trans (e4.trans t5)
    have hrd5 := (e4.trans t5) _ _ hrd
    generalize upd H4 l (.tup ((rd s.told v).map nt)) = H5 at e25 hrd5
    refine nxI ?_
    dsimp only [List.set_cons_succ, List.set_cons_zero]
    refine ifI (ttI (opI (lcI ⟨_, rfl, D, rfl, ⟨_, SqL.of hrd5⟩, lcL (rd s.told v) nt (fun _ => false) nt (SqL.of hrd5) (by have := hrl v; omega) (fun j H6 hj e6 Z N hz hN => ?_) fun D6 H6 hD6 e6 h6 => ?_⟩)))
    · have hcj := hcont.2 j v (mem_rd.mp hj)
      refine ⟨rfl, _, rfl, _, rfl, ixT (same_t (e25.trans e6) hk) (atI_nat (by rw [List.getElem?_map, hcj]; rfl)) ⟨_, rfl, .inl ⟨_, _, rfl, rfl, .inl ⟨rfl, false, ?_, iteF (hN _ rfl (Same.refl _))⟩⟩⟩⟩
      dsimp only
      rw [decide_eq_true rfl]; rfl
    · have : (rd s.told v).filter (fun _ => false) = [] := List.filter_eq_nil_iff.mpr fun _ _ h => by cases h
      rw [this] at h6
      refine ⟨by decide, fun p7 hp7 => neNilN [] (SqL.of (Same.new hp7 _ _ h6)) (SqL.of upd_same) ⟨false, rfl, tst_f rfl ?_⟩⟩
      exact ⟨⟨_, _, _, rfl⟩, (e25.trans e6).trans (Same.new hp7)⟩
  · rintro σ H1 ⟨⟨o6, o7, o8, rfl⟩, e1⟩
    dsimp only [List.set_cons_succ, List.set_cons_zero]
    refine rtI ⟨_, rfl, _, rfl, a, p, s, rfl, hS.same e1, htl, hnl, fun H2 w e2 hw => ?_⟩
    obtain ⟨cw, rfl, hcw⟩ := hw
    have hnil : (List.range s.T.ns.length).filter (fun v => (rd s.told v).isEmpty) = [] := List.filter_eq_nil_iff.mpr fun v hv h => by
      have hv' := List.mem_range.mp hv
      have h1 := hmany v _ (List.getElem?_eq_getElem hv')
      have h2 := hpos _ (List.getElem_mem hv')
      rw [List.isEmpty_iff.mp h] at h1
      simp at h1
      omega
    rw [hnil] at hcw
    exact ⟨by decide, fun p3 hp3 => eqNilT (ds := []) (same_t (Same.new hp3) hcw) .nil (fun d hd => by cases hd) (SqT.of upd_same) (q _ ((e1.trans e2).trans (Same.new hp3)))⟩
end Wm
set_option Elab.async false
set_option linter.all false
set_option maxRecDepth 100000
set_option maxHeartbeats 4000000
/-! a place is written, its contents are led -/
namespace Wm
open PySem PySem.Spec PyProof.Rows L2
def pWritten (K : PySem.W.Frag) (x y z : V) (H : Hp) (Q : VK) : Prop := ∃ a p s S i cs, x = .ref a ∧ SoR K H a p s ∧ CsT K H y cs ∧ z = nt i ∧ Wf s ∧ s.on = true ∧ s.P[s.ix]? = some S ∧ i ∈ plc S ∧ (wantAt s i ≠ none → ∃ j, s.told[j]? = some (some (wantAt s i)) ∧ j ∉ plc S) ∧
  Small s.told ∧ (∀ v, wantAt s i = some v → v < 1024) ∧ Cont s.told cs ∧
  ∀ H' v w cs', Kp a p H H' → w.Nodup → (∀ k, k ∈ w ↔ k = i ∨ k ∈ s.whole) → SoR K H' a p { s with told := s.told.set i (some (wantAt s i)), whole := w, n := s.n + 1 } → CsT K H' v cs' → Cont (s.told.set i (some (wantAt s i))) cs' → Q v H'
theorem sc_law_written : FnScope ["_law_store", "_law_contents", "_law_place", "_law_ahead", "_law_item", "_law_at", "_law_one", "_law_sources"] ["_law_store", "_law_contents", "_law_place"] (defScope s_law_written) := ⟨rfl, rfl, rfl, by decide +kernel, rfl, by decide +kernel, by decide +kernel⟩
theorem d_law_written {P : Program} {w : World} {K : PySem.W.Frag} {mg : Str → Option Value} {base : Heap} (W : Wd K mg base) : DnG P w K mg base 5 "_law_written" (sp3 (pWritten K)) := by
  refine W.dnG (st := s_law_written) (ps := ["_law_store", "_law_contents", "_law_place"]) 53 53 rfl rfl (fun _ _ _ _ _ _ us hl => match us, hl with | [_, _, _], _ => rfl) fun f fd F => ?_
  refine FnG.ofD F sc_law_written (fun vs H Q E h => ?_) (fun cdv A outer s H vs Q E hg hr h => ?_)
  · obtain ⟨_, _, _, rfl, _⟩ := h; rfl
  have hu := hr.units
  have SC := W.sc
  obtain ⟨x, y, z, rfl, h⟩ := h
  refine ⟨_, PSs.nox (pss_cons (ps_set (i := 3) sc_law_written.nd rfl (Or.inl rfl) (pe_fnG (d_shown W).g hg (hr.mono (by decide)) rfl (pa_cons (pv 0) pa_nil)))
      (pss_cons (ps_expr (pe_mt (dm_write W) SC (hr.mono (by decide)) (pv 0) (pa_cons (pv 2) pa_nil)))
      (pss_cons (ps_set (i := 4) sc_law_written.nd rfl (Or.inr rfl) (pe_ix (ix_any (K := K)) (pe_fnG (d_shown W).g hg (hr.mono (by decide)) rfl (pa_cons (pv 0) pa_nil)) (pv 2) (fun _ _ => rfl)))
      (pss_cons (ps_setLc (i := 7) (own := [("_law_at", 5), ("_law_one", 6)]) rfl sc_law_written.nd rfl rfl (sw_true rfl rfl rfl (by decide +kernel)) (pi_enumT rfl (W.free 78) (pa_cons (pv 3) pa_nil)) (blkOk_by (by kernel_rfl)) (fun _ _ _ _ _ => (pg_tupK (K := K) (n := 2) rfl (pgs_cons (pg_name (i := 5) sc_law_written.nd rfl (Or.inl rfl)) (pgs_cons (pg_name (i := 6) sc_law_written.nd rfl (Or.inl rfl)) pgs_nil)))) (fun _ _ _ _ _ => (pts_one (PW.pt (pw_and (pt_cmpR (op_neA hu (K := K)) (pv 5) (pv 2) (nomark _)) (pw_and1 (pt_val (pe_fnG (d_law_alike W) hg (hr.mono (by decide)) rfl (pa_cons (pv 6) (pa_cons (pv 4) pa_nil))))))))) (fun _ _ _ _ _ => (pv 5)))
      (pss_one (ps_ret (pe_fnG (d_law_with W) hg (hr.mono (by decide)) rfl (pa_cons (pv 1) (pa_cons (pv 2) (pa_cons (pe_ifExp (PW.pt (pw_and (pt_cmpR op_notN (pv 4) pe_non (nomark _)) (pw_and1 (pt_cmpR (op_neA hu (K := K)) (pv 7) (pe_lst pa_nil) (nomark _))))) (pe_ix (ix_any (K := K)) (pv 1) (pe_ix (ix_any (K := K)) (pv 7) pe_int (fun _ _ => rfl)) (fun _ _ => rfl)) (pe_un un_neg pe_int)) pa_nil)))))))))), ?_⟩
  rw [show L2.start ["_law_store", "_law_contents", "_law_place", "_law_ahead", "_law_item", "_law_at", "_law_one", "_law_sources"] [x, y, z] = [some x, some y, some z, none, none, none, none, none] from rfl]
  obtain ⟨a, p, s, S, i, cs, rfl, hS, ⟨k, rfl, hk⟩, rfl, wf, hon, hSt, hi, hsrc, hsm, hws, hcont, q⟩ := h
  have gS := goodP_all_at wf.gp hSt
  have hilt : i < s.told.length := by
    obtain ⟨q1, hq1, rfl⟩ := List.mem_map.mp hi
    have := (gS.low q1 hq1).1
    rw [lastL_len] at this
    have := wf.tl
    omega
  have htl : s.told.length ≤ 100 := by have := wf.tl; have := wf.l1; omega
  obtain ⟨hcl, hcv⟩ := hcont
  refine sqI (asI ⟨_, rfl, _, rfl, a, p, s, rfl, hS, fun vt hvt => ?_⟩)
  obtain ⟨ct, rfl, hct⟩ := hvt
  obtain ⟨dx, l, v1, v2, v3, v4, v5, hs, hv⟩ := id hS
  dsimp only [gName, List.set_cons_succ, List.set_cons_zero]
  refine sqI ⟨_, rfl, a, dx, _, rfl, hs.slt, _, rfl, _, _, rfl, a, p, s, S, i, rfl, hS, wf, hon, hSt, rfl, hi, hsrc, fun H1 w k1 hwn hwm hS1 => ?_⟩
  have hct1 := sqT_kp hS.far k1 hct
  have hk1 := sqT_kp hS.far k1 hk
  dsimp only [List.set_cons_succ, List.set_cons_zero]
  refine sqI (asI ⟨_, rfl, _, rfl, a, p, _, rfl, hS1, fun vt2 hvt2 => ?_⟩)
  obtain ⟨ct2, rfl, hct2⟩ := hvt2
  have hget : ((s.told.set i (some (wantAt s i))).map tlV)[i]? = some (it (wantAt s i)) := by
    rw [List.getElem?_map, List.getElem?_set_self hilt]; rfl
  refine ⟨_, rfl, ixT hct2 (atI_nat hget) ?_⟩
  dsimp only [gName, List.set_cons_succ, List.set_cons_zero]
  refine sqI (asI (lcI ⟨_, rfl, ct, _, rfl, hct1, lcE s.told tlV (fun j t => !decide (nt j = nt i) && decide (t = some (wantAt s i))) (fun j _ => nt j) hct1 (by omega) (fun j t T' H3 hx e3 hT' Z N hz hN => ?_) fun D H3 hD e3 h3 => ?_⟩))
  · refine ⟨T', _, rfl, SqT.of upd_same, rfl, _, _, rfl, _, _, rfl, rfl, rfl, _, rfl, _, rfl, .inl ⟨rfl, !decide (nt j = nt i), rfl, tst (fun c1 => ?_) fun c1 => hN _ (by rw [c1]; rfl) (Same.new hT')⟩⟩
    refine ⟨_, rfl, _, rfl, alike_tl (t := t) (u := some (wantAt s i)) (fun w hw => hsm j w (by rw [hx, hw])) (fun w hw => hws w (by simpa using hw)) ⟨_, rfl, tst (fun c => ⟨_, rfl, hz _ (by rw [c1, c]; rfl) (Same.new hT')⟩) fun c => hN _ (by rw [c1, c]; rfl) (Same.new hT')⟩⟩
  rw [pos_nt] at h3
  have hPm : ∀ j, j ∈ pos (fun j (t : Tl) => !decide (nt j = nt i) && decide (t = some (wantAt s i))) s.told → s.told[j]? = some (some (wantAt s i)) := fun j hj => by
    obtain ⟨t, h1, h2⟩ := mem_pos.mp hj
    have := of_decide_eq_true (Bool.and_eq_true_iff.mp h2).2
    rw [h1, this]
  have hPx : wantAt s i ≠ none → pos (fun j (t : Tl) => !decide (nt j = nt i) && decide (t = some (wantAt s i))) s.told ≠ [] := fun hne z => by
    obtain ⟨j, h1, h2⟩ := hsrc hne
    have : j ∈ pos (fun j (t : Tl) => !decide (nt j = nt i) && decide (t = some (wantAt s i))) s.told := mem_pos.mpr ⟨_, h1, by
      rw [decide_eq_true rfl, decide_eq_false (fun z => h2 (by rw [nt_inj.mp z]; exact hi))]; rfl⟩
    rw [z] at this
    cases this
  generalize pos (fun j (t : Tl) => !decide (nt j = nt i) && decide (t = some (wantAt s i))) s.told = P at h3 hPm hPx
  dsimp only [gName, List.set_cons_succ, List.set_cons_zero]
  have fin : ∀ (x : Int) (H4 : Hp), Same H1 H4 → (∀ v, wantAt s i = some v → x = 1000 + (v : Int)) → sp3 (pWith K) [.ref k, nt i, .int x] H4 Q E0 := fun x H4 e4 hx => by
    refine ⟨_, _, _, rfl, cs, i, x, ⟨k, rfl, same_t e4 hk1⟩, rfl, rfl, by omega, by omega, fun H5 v5 e5 hv5 => q _ _ w _ (k1.trans (Kp.of (e4.trans e5))) hwn hwm (hS1.same (e4.trans e5)) hv5 ⟨by rw [List.length_set, List.length_set]; exact hcl, fun j v hj => ?_⟩⟩
    by_cases h : i = j
    · subst h
      rw [List.getElem?_set_self hilt] at hj
      have h2 : wantAt s i = some v := by simpa using hj
      rw [List.getElem?_set_self (by omega), hx v h2]
    · rw [List.getElem?_set_ne h] at hj ⊢
      exact hcv j v hj
  refine rtI ⟨_, rfl, _, rfl, cn1 ?_⟩
  cases hw : wantAt s i with
  | none =>
    refine ⟨_, rfl, rfl, false, ?_, iteF ?_⟩
    · rfl
    · exact ⟨_, rfl, fin _ _ e3 fun v hv => by rw [hw] at hv; cases hv⟩
  | some v =>
    have hne := hPx (by rw [hw]; simp)
    obtain ⟨j0, R, hP⟩ := List.exists_cons_of_ne_nil hne
    subst hP
    have hj0 := hPm j0 List.mem_cons_self
    rw [hw] at hj0
    have hc0 := hcv j0 v hj0
    refine ⟨_, rfl, rfl, true, ?_, iteT ?_⟩
    · rfl
    · refine ⟨_, rfl, by decide, fun p5 hp5 => neNilN (j0 :: R) (SqL.of (Same.new hp5 _ _ h3)) (SqL.of upd_same) ⟨true, rfl, iteT ?_⟩⟩
      have e5 := e3.trans (Same.new (o := .lst []) hp5)
      refine ⟨_, rfl, _, rfl, ixL (SqL.of (Same.new hp5 _ _ h3)) (atI_nat (j := 0) rfl) (ixT (same_t e5 hk1) (atI_nat (by rw [List.getElem?_map, hc0]; rfl)) (fin _ _ e5 fun v' hv' => by rw [hw] at hv'; cases hv'; rfl))⟩
end Wm
set_option Elab.async false
set_option linter.all false
set_option maxRecDepth 100000
set_option maxHeartbeats 4000000
/-! a stretch is walked -/
namespace Wm
open PySem PySem.Spec PyProof.Rows L2
/-- the bag x0, the Store x1, the task x2, the plan x3, the contents x4; c: how much the past may grow behind it -/
def pWalked (K : PySem.W.Frag) (x0 x1 x2 x3 x4 : V) (H : Hp) (Q : VK) : Prop := ∃ H0 b a p s s' S cs c, x0 = .ref b ∧ x1 = .ref a ∧ Same H0 H ∧ H0 a = none ∧ H0 p = none ∧ Bag H0 b ∧ SoR K H a p s' ∧ TkT K H x2 s.T ∧ PlT K H x3 s.P ∧ CsT K H x4 cs ∧
  Wk s s' S cs (c + 1000) ∧ s.on = true ∧ s.P[s.ix]? = some S ∧ GoodT s.T ∧
  ∀ H' v s'' cs', Kp a p H H' → SoR K H' a p s'' → CsT K H' v cs' → Wk s s'' S cs' c → (∀ k ∈ plc S, k ∈ s''.whole) → Q v H'
theorem sc_law_is_walked : FnScope ["_law_bag_here", "_law_store", "_law_task_here", "_law_plan", "_law_contents", "_law_kill", "_law_place", "_law_way", "_law_index", "_law_source"] ["_law_bag_here", "_law_store", "_law_task_here", "_law_plan", "_law_contents"] (defScope s_law_is_walked) := ⟨rfl, rfl, rfl, by decide +kernel, rfl, by decide +kernel, by decide +kernel⟩
theorem d_law_is_walked {P : Program} {w : World} {K : PySem.W.Frag} {mg : Str → Option Value} {base : Heap} (W : Wd K mg base) : DnG P w K mg base 6 "_law_is_walked" (sp5 (pWalked K)) := by
  refine W.dnG (st := s_law_is_walked) (ps := ["_law_bag_here", "_law_store", "_law_task_here", "_law_plan", "_law_contents"]) 54 54 rfl rfl (fun _ _ _ _ _ _ us hl => match us, hl with | [_, _, _, _, _], _ => rfl) fun f fd F => ?_
  refine FnG.ofD F sc_law_is_walked (fun vs H Q E h => ?_) (fun cdv A outer s H vs Q E hg hr h => ?_)
  · obtain ⟨_, _, _, _, _, rfl, _⟩ := h; rfl
  have hu := hr.units
  have SC := W.sc
  obtain ⟨x0, x1, x2, x3, x4, rfl, h⟩ := h
  refine ⟨_, PSs.nox (pss_cons (ps_for PassesOwn.never rfl (pi_range1 rfl (W.free 72) (pa_cons (pe_fnG (d_law_some W) hg (hr.mono (by decide)) rfl (pa_cons (pv 0) (pa_cons (pe_lst (pa_cons pe_int (pa_cons pe_int (pa_cons pe_int pa_nil)))) pa_nil))) pa_nil)) (pg_name (i := 5) sc_law_is_walked.nd rfl (Or.inl rfl)) (pss_cons (ps_for PassesOwn.never rfl (pi_listK (K := K) (pe_fnG (d_law_mixed W) hg (hr.mono (by decide)) rfl (pa_cons (pv 0) (pa_cons (pe_callTy call_list_of rfl (W.free 80) boot_list (pa_cons (pe_fnG (d_left_to_write W).g hg (hr.mono (by decide)) rfl (pa_cons (pv 1) pa_nil)) pa_nil)) pa_nil)))) (pg_name (i := 6) sc_law_is_walked.nd rfl (Or.inl rfl)) (pss_cons (ps_if (pt_cmpR (op_eqA hu (K := K)) (pe_fnG (d_law_take W) hg (hr.mono (by decide)) rfl (pa_cons (pv 0) (pa_cons pe_int pa_nil))) pe_int (nomark _)) (pss_cons (ps_expr (pe_mt (dm_spoil W) SC (hr.mono (by decide)) (pv 1) (pa_cons (pv 6) pa_nil)))
      (pss_cons (ps_set (i := 4) sc_law_is_walked.nd rfl (Or.inl rfl) (pe_fnG (d_law_with W) hg (hr.mono (by decide)) rfl (pa_cons (pv 4) (pa_cons (pv 6) (pa_cons (pe_op op_sub (pe_un un_neg pe_int) (pe_fnG (d_law_take W) hg (hr.mono (by decide)) rfl (pa_cons (pv 0) (pa_cons pe_int pa_nil)))) pa_nil)))))
      (pss_one (ps_if (pt_not (pt_val (pe_fnG (d_law_is_readable W) hg (hr.mono (by decide)) rfl (pa_cons (pv 1) (pa_cons (pe_ix (ix_any (K := K)) (pv 2) pe_int (fun _ _ => rfl)) (pa_cons (pv 4) pa_nil)))))) (pss_one (ps_ret pe_non)) pss_nil)))) pss_nil)
      (pss_cons (ps_set (i := 4) sc_law_is_walked.nd rfl (Or.inl rfl) (pe_fnG (d_law_written W) hg (hr.mono (by decide)) rfl (pa_cons (pv 1) (pa_cons (pv 4) (pa_cons (pv 6) pa_nil)))))
      (pss_one (ps_if (pt_not (pt_val (pe_fnG (d_law_is_readable W) hg (hr.mono (by decide)) rfl (pa_cons (pv 1) (pa_cons (pe_ix (ix_any (K := K)) (pv 2) pe_int (fun _ _ => rfl)) (pa_cons (pv 4) pa_nil)))))) (pss_one (ps_ret pe_non)) pss_nil)))))
      (pss_one (ps_if (PW.pt (pw_and (pt_cmpR (op_eqA hu (K := K)) (pe_fnG (d_law_take W) hg (hr.mono (by decide)) rfl (pa_cons (pv 0) (pa_cons pe_int pa_nil))) pe_int (nomark _)) (pw_and1 (pt_cmpR op_lt (pv 5) pe_int (nomark _))))) (pss_cons (ps_expr (pe_mt0 (dm_cut W) SC (hr.mono (by decide)) (pv 1)))
      (pss_cons (ps_asg (pe_fnG (d_going_on W).g hg (hr.mono (by decide)) rfl (pa_cons (pv 1) pa_nil)) (pg_tupK (K := K) (n := 2) rfl (pgs_cons (pg_name (i := 7) sc_law_is_walked.nd rfl (Or.inl rfl)) (pgs_cons (pg_name (i := 8) sc_law_is_walked.nd rfl (Or.inl rfl)) pgs_nil))))
      (pss_cons (ps_for PassesOwn.never rfl (pi_tupK (K := K) (pe_ix (ix_any (K := K)) (pv 3) (pv 8) (fun _ _ => rfl))) (pg_tupK (K := K) (n := 2) rfl (pgs_cons (pg_name (i := 6) sc_law_is_walked.nd rfl (Or.inl rfl)) (pgs_cons (pg_name (i := 9) sc_law_is_walked.nd rfl (Or.inl rfl)) pgs_nil))) (pss_one (ps_set (i := 4) sc_law_is_walked.nd rfl (Or.inl rfl) (pe_fnG (d_law_with W) hg (hr.mono (by decide)) rfl (pa_cons (pv 4) (pa_cons (pv 6) (pa_cons (pe_un un_neg pe_int) pa_nil)))))))
      (pss_one (ps_if (pt_not (pt_val (pe_fnG (d_law_is_readable W) hg (hr.mono (by decide)) rfl (pa_cons (pv 1) (pa_cons (pe_ix (ix_any (K := K)) (pv 2) pe_int (fun _ _ => rfl)) (pa_cons (pv 4) pa_nil)))))) (pss_one (ps_ret pe_non)) pss_nil))))) pss_nil))))
      (pss_cons (ps_for PassesOwn.never rfl (pi_tupK (K := K) (pe_fnG (d_left_to_write W).g hg (hr.mono (by decide)) rfl (pa_cons (pv 1) pa_nil))) (pg_name (i := 6) sc_law_is_walked.nd rfl (Or.inl rfl)) (pss_one (ps_set (i := 4) sc_law_is_walked.nd rfl (Or.inl rfl) (pe_fnG (d_law_written W) hg (hr.mono (by decide)) rfl (pa_cons (pv 1) (pa_cons (pv 4) (pa_cons (pv 6) pa_nil)))))))
      (pss_one (ps_ret (pe_ifExp (pt_val (pe_fnG (d_law_is_readable W) hg (hr.mono (by decide)) rfl (pa_cons (pv 1) (pa_cons (pe_ix (ix_any (K := K)) (pv 2) pe_int (fun _ _ => rfl)) (pa_cons (pv 4) pa_nil))))) (pv 4) pe_non))))), ?_⟩
  rw [show L2.start ["_law_bag_here", "_law_store", "_law_task_here", "_law_plan", "_law_contents", "_law_kill", "_law_place", "_law_way", "_law_index", "_law_source"] [x0, x1, x2, x3, x4] = [some x0, some x1, some x2, some x3, some x4, none, none, none, none, none] from rfl]
  obtain ⟨H0, b, a, p, s, s', S, cs, c, rfl, rfl, e0, ha0, hp0, hb, hS, hT, hP, hC, hW, hon, hSt, gT, q⟩ := h
  obtain ⟨t, n1, o1, w1, rfl, ht, ⟨cn1', rfl, hns⟩, _, _⟩ := hT
  have hfar := hS.far
  obtain ⟨cp, xp, rfl, hcp, hPp⟩ := hP
  have gS := hW.gs hSt
  have gl := gS.len
  rw [lastL_len] at gl
  have hl1 : s.T.old.length ≤ 100 := by have := hW.wf.l1; rw [hW.T] at this; exact this
  have hl3 : s.T.ns.length ≤ 100 := by have := hW.wf.l3; rw [hW.T] at this; exact this
  have bagAt : ∀ {H'}, Kp a p H H' → Bag H' b := fun k => hb.mono (Kp.back e0 k ha0 hp0)
  have tlen : ∀ {s'' cs' c'}, Wk s s'' S cs' c' → s''.told.length = s.T.old.length := fun h => by have := h.wf.tl; rw [h.T] at this; exact this
  have rdb : ∀ {H' vc s'' cs' c'} {Q' : VK}, Kp a p H H' → SoR K H' a p s'' → CsT K H' vc cs' → Wk s s'' S cs' c' → (∀ H'', Same H' H'' → Q' (.bl true) H'') → sp3 (pReadable K) [.ref a, .ref cn1', vc] H' Q' E0 := fun {H' vc s'' cs' c' Q'} k hS' hC' hW' q' => by
    refine ⟨_, _, _, rfl, a, p, s'', cs', rfl, hS', ?_, hC', ?_, ?_, ?_, hW'.cont, ?_, ?_, q'⟩
    · rw [hW'.T]; exact ⟨cn1', rfl, sqT_kp hfar k hns⟩
    · rw [tlen hW']; exact hl1
    · rw [hW'.T]; exact hl3
    · intro i v hv
      have := hW'.small gT.old i v hv
      omega
    · rw [hW'.T]; exact gT.pos
    · rw [hW'.T]
      exact fun v n hv => rd_many hW'.out gS.safe hv
  -- a place written
  have wrt : ∀ {H' vc s'' cs' c' i} {Q' : VK}, Kp a p H H' → SoR K H' a p s'' → CsT K H' vc cs' → Wk s s'' S cs' (c' + 1) → i ∈ plc S →
      (∀ H'' v w cs'', Kp a p H' H'' → SoR K H'' a p { s'' with told := s''.told.set i (some (wantAt s'' i)), whole := w, n := s''.n + 1 } → CsT K H'' v cs'' → Wk s { s'' with told := s''.told.set i (some (wantAt s'' i)), whole := w, n := s''.n + 1 } S cs'' c' → (∀ k, k ∈ w ↔ k = i ∨ k ∈ s''.whole) → Q' v H'') → sp3 (pWritten K) [.ref a, vc, nt i] H' Q' E0 := fun {H' vc s'' cs' c' i Q'} k hS' hC' hW' hi q' => by
    have hSt' : s''.P[s''.ix]? = some S := by rw [hW'.P, hW'.ix]; exact hSt
    have hil : i < s''.told.length := by
      obtain ⟨q1, hq1, rfl⟩ := List.mem_map.mp hi
      have := (gS.low q1 hq1).1
      rw [lastL_len] at this
      rw [tlen hW']; exact this
    refine ⟨_, _, _, rfl, a, p, s'', S, i, cs', rfl, hS', hC', rfl, hW'.wf, hW'.on.trans hon, hSt', hi, fun hne => by rw [hW'.want] at hne ⊢; exact hW'.src hSt hi hne, fun j v hv => by have := hW'.small gT.old j v hv; omega, fun v hv => ?_, hW'.cont, fun H'' v w cs'' k2 hn hw hS2 hC2 hc2 => q' _ _ w cs'' k2 hS2 hC2 (hW'.written hi hil hn hw hc2) hw⟩
    have g := hW'.wf.gp
    rw [hW'.T, hW'.P] at g
    have r2 := right_at gT.old g (s.ix + 1)
    rw [hW'.want] at hv
    have := r2.val v (List.mem_of_getElem? (getD_some.mp hv))
    omega
  have stAt : ∀ {s'' cs' c'}, Wk s s'' S cs' c' → s''.P[s''.ix]? = some S := fun h => by rw [h.P, h.ix]; exact hSt
  have plLow : ∀ i, i ∈ plc S → i < s.T.old.length := fun i hi => by
    obtain ⟨q1, hq1, rfl⟩ := List.mem_map.mp hi
    have := (gS.low q1 hq1).1
    rwa [lastL_len] at this
  have clen : ∀ {s'' cs' c'}, Wk s s'' S cs' c' → cs'.length = s.T.old.length := fun h => h.cont.1.trans (tlen h)
  have hpl : (plc S).length ≤ 100 := by rw [List.length_map]; omega
  refine sqI (frI ⟨_, rfl, (by show 3 ≤ sizeLine; decide), fun p1 hp1 => ⟨_, _, rfl, b, p1, _, rfl, rfl, (hb.mono e0).mono (Same.new hp1), SqL.of upd_same, by simp, by decide, fun H1 v1 e1 hv1 => ?_⟩⟩)
  have hm : ∃ m : Nat, v1 = nt m ∧ m ≤ 3 := by
    simp only [List.mem_cons, List.not_mem_nil, or_false] at hv1
    rcases hv1 with h | h | h
    · exact ⟨1, h, by omega⟩
    · exact ⟨2, h, by omega⟩
    · exact ⟨3, h, by omega⟩
  obtain ⟨m, rfl, hm3⟩ := hm
  have E1 := (Same.new (o := .lst [V.int 1, .int 2, .int 3]) hp1).trans e1
  refine frN (by omega) (forRng (fun kk σ H' => ∃ vc s'' cs' o5 o6 o7 o8 o9, σ = [some (V.ref b), some (.ref a), some (.ref t), some (.ref cp), some vc, o5, o6, o7, o8, o9] ∧ Kp a p H H' ∧ SoR K H' a p s'' ∧ CsT K H' vc cs' ∧ Wk s s'' S cs' (c + 1000 - 250 * kk)) ?_ ?_ ?_)
  · exact ⟨x4, s', cs, _, _, _, _, _, rfl, Kp.of E1, hS.same E1, hC.mono E1, hW.weak (by omega)⟩
  · rintro kk σ H2 hkk ⟨vc, s2, cs2, o5, o6, o7, o8, o9, rfl, k2, hS2, hC2, hW2⟩
    have hkk3 : kk < 3 := by omega
    dsimp only [gName, List.set_cons_succ, List.set_cons_zero]
    refine sqI ⟨_, rfl, _, rfl, _, rfl, a, p, s2, S, rfl, hS2, hW2.wf, stAt hW2, fun H3 v3 e3 hv3 => ?_⟩
    obtain ⟨c3, rfl, hc3⟩ := hv3
    have hfl : ((plc S).filter fun k => !s2.whole.contains k).length ≤ (plc S).length := List.length_filter_le _ _
    refine ⟨c3, _, rfl, .inr hc3, fun l hl => ?_⟩
    have t4 := Same.new (o := .lst (((plc S).filter fun k => !s2.whole.contains k).map nt)) hl
    have k4 := k2.trans (Kp.of (e3.trans t4))
    refine ⟨_, _, rfl, b, l, _, rfl, rfl, bagAt k4, SqL.of upd_same, by rw [List.length_map]; omega, fun H5 p5 ys e5 hp5 h5 hperm => ?_⟩
    obtain ⟨Lf, rfl, hLf⟩ := perm_nts hperm
    have hS4 := (hS2.same e3).same t4
    have hpa : p5 ≠ a := fun z => by obtain ⟨dx, _, _, _, _, _, _, hs, _⟩ := hS4; rw [z, hs.2.2] at hp5; cases hp5
    have hpp : p5 ≠ p := fun z => by obtain ⟨dx, _, _, _, _, _, _, _, hv⟩ := hS4; obtain ⟨zs, hz, _⟩ := hv.past; rw [z, hz] at hp5; cases hp5
    have hLm : ∀ k ∈ Lf, k ∈ plc S := fun k hk => (List.mem_filter.mp (hLf.mem_iff.mp hk)).1
    have hLl : Lf.length ≤ 100 := by rw [hLf.length_eq]; omega
    have k5 := k4.trans (Kp.of e5)
    have e25 := e3.trans (t4.trans e5)
    refine ⟨p5, rfl, ⟨_, SqL.of h5⟩, for_list (xs := Lf.map nt) (fun j σ H' => ∃ vc s'' cs' o6 o7 o8 o9, σ = [some (V.ref b), some (.ref a), some (.ref t), some (.ref cp), some vc, some (nt kk), o6, o7, o8, o9] ∧ Kp a p H H' ∧ SoR K H' a p s'' ∧ CsT K H' vc cs' ∧ Wk s s'' S cs' (c + 1000 - 250 * kk - 2 * j) ∧ H' p5 = some (.lst (Lf.map nt))) ?_ ?_ ?_ ?_⟩
    · exact ⟨vc, s2, cs2, _, _, _, _, rfl, k5, hS2.same e25, hC2.mono e25, hW2.weak (by omega), h5⟩
    · rintro j σ H' _ ⟨_, _, _, _, _, _, _, _, _, _, _, _, h⟩
      exact SqL.of h
    · rintro j x σ H6 hj ⟨vc6, s6, cs6, o6, o7, o8, o9, rfl, k6, hS6, hC6, hW6, h6⟩
      have hjl := (List.getElem?_eq_some_iff.mp hj).1
      rw [List.length_map] at hjl
      rw [List.getElem?_map] at hj
      obtain ⟨i, hi, rfl⟩ := Option.map_eq_some_iff.mp hj
      have hiS := hLm i (List.mem_of_getElem? hi)
      have hil := plLow i hiS
      have p5at : ∀ {H'}, Kp a p H6 H' → H' p5 = some (.lst (Lf.map nt)) := fun k => k _ _ hpa hpp h6
      have hW6' : Wk s s6 S cs6 (c + 1000 - 250 * kk - 2 * j - 1 + 1) := hW6.weak (by omega)
      dsimp only [gName, List.set_cons_succ, List.set_cons_zero]
      refine seq_cut (fun σ' H' => ∃ vc s'' cs' o7 o8 o9, σ' = [some (V.ref b), some (.ref a), some (.ref t), some (.ref cp), some vc, some (nt kk), some (nt i), o7, o8, o9] ∧ Kp a p H6 H' ∧ SoR K H' a p s'' ∧ CsT K H' vc cs' ∧ Wk s s'' S cs' (c + 1000 - 250 * kk - 2 * j - 1)) (fun nx hnx => ?_) ?_
      · refine ifI ⟨_, rfl, _, _, rfl, b, 3, rfl, rfl, bagAt k6, by decide, by decide, fun H7 r7 e7 hr7 => .inl ⟨rfl, _, rfl, tst (fun c1 => ?_) fun c1 => ?_⟩⟩
        · have k7 := k6.trans (Kp.of e7)
          have hS7 := hS6.same e7
          have hC7 := hC6.mono e7
          obtain ⟨dx, _, _, _, _, _, _, hs7, _⟩ := id hS7
          refine sqI ⟨_, rfl, a, dx, _, rfl, hs7.slt, _, rfl, _, _, rfl, a, p, s6, S, i, rfl, hS7, hW6.wf, stAt hW6, rfl, hiS, fun H8 k8 hS8 => ?_⟩
          have K8 := k7.trans k8
          have hC8 := csT_kp hS7.far k8 hC7
          dsimp only [gName, List.set_cons_succ, List.set_cons_zero]
          refine sqI (asI ⟨_, rfl, _, rfl, _, rfl, _, rfl, _, _, rfl, b, 50, rfl, rfl, bagAt K8, by decide, by decide, fun H9 r9 e9 hr9 => ⟨_, _, rfl, rfl, ?_⟩⟩)
          refine ⟨_, _, _, rfl, cs6, i, _, hC8.mono e9, rfl, rfl, by rw [clen hW6]; exact hil, by rw [clen hW6]; omega, fun H10 v10 e10 hC10 => ?_⟩
          have K10 := K8.trans (Kp.of (e9.trans e10))
          have hS10 := hS8.same (e9.trans e10)
          have hW10 := fun x : Int => hW6'.spoil (cs' := cs6.set i x) hiS (by rw [tlen hW6]; exact hil) (Cont.clear hW6.cont (List.length_set) fun k hk => List.getElem?_set_ne (Ne.symm hk))
          dsimp only [gName, List.set_cons_succ, List.set_cons_zero]
          refine ifI ⟨_, rfl, _, rfl, ixT (sqT_kp hfar K10 ht) rfl ⟨_, rfl, rdb K10 hS10 hC10 (hW10 _) fun H11 e11 => ⟨true, rfl, tst_f rfl ?_⟩⟩⟩
          exact hnx _ _ ⟨v10, _, _, _, _, _, rfl, ((Kp.of e7).trans k8).trans (Kp.of ((e9.trans e10).trans e11)), hS10.same e11, hC10.mono e11, hW10 _⟩
        · exact hnx _ _ ⟨vc6, s6, cs6, _, _, _, rfl, Kp.of e7, hS6.same e7, hC6.mono e7, hW6.weak (by omega)⟩
      · rintro σ H7 ⟨vc7, s7, cs7, o7, o8, o9, rfl, k67, hS7, hC7, hW7⟩
        have k7 := k6.trans k67
        have hW7' : Wk s s7 S cs7 (c + 1000 - 250 * kk - 2 * j - 2 + 1) := hW7.weak (by omega)
        refine sqI (asI ⟨_, rfl, _, rfl, _, rfl, wrt k7 hS7 hC7 hW7' hiS fun H8 v8 w8 cs8 k78 hS8 hC8 hW8 hw8 => ?_⟩)
        have k8 := k7.trans k78
        dsimp only [gName, List.set_cons_succ, List.set_cons_zero]
        refine ifI ⟨_, rfl, _, rfl, ixT (sqT_kp hfar k8 ht) rfl ⟨_, rfl, rdb k8 hS8 hC8 hW8 fun H9 e9 => ⟨true, rfl, tst_f rfl ?_⟩⟩⟩
        exact ⟨v8, _, cs8, _, _, _, _, rfl, k8.trans (Kp.of e9), hS8.same e9, hC8.mono e9, hW8.weak (by omega), p5at ((k67.trans k78).trans (Kp.of e9))⟩
    · rintro σ H6 ⟨vc6, s6, cs6, o6, o7, o8, o9, rfl, k6, hS6, hC6, hW6, h6⟩
      rw [List.length_map] at hW6
      have NX : ∀ H7, Same H6 H7 → ∃ vc s'' cs' o5' o6' o7' o8' o9', [some (V.ref b), some (.ref a), some (.ref t), some (.ref cp), some vc6, some (nt kk), o6, o7, o8, o9] = [some (V.ref b), some (.ref a), some (.ref t), some (.ref cp), some vc, o5', o6', o7', o8', o9'] ∧ Kp a p H H7 ∧ SoR K H7 a p s'' ∧ CsT K H7 vc cs' ∧ Wk s s'' S cs' (c + 1000 - 250 * (kk + 1)) :=
        fun H7 e7 => ⟨vc6, s6, cs6, _, _, _, _, _, rfl, k6.trans (Kp.of e7), hS6.same e7, hC6.mono e7, hW6.weak (by omega)⟩
      dsimp only [gName, List.set_cons_succ, List.set_cons_zero]
      refine ifI ⟨_, rfl, _, _, rfl, b, 2, rfl, rfl, bagAt k6, by decide, by decide, fun H7 r7 e7 hr7 => .inl ⟨rfl, _, rfl, tst (fun c1 => ?_) fun c1 => NX _ e7⟩⟩
      refine ⟨_, rfl, _, _, rfl, rfl, _, rfl, tst (fun c2 => ?_) fun c2 => NX _ e7⟩
      have k7 := k6.trans (Kp.of e7)
      have hS7 := hS6.same e7
      have hC7 := hC6.mono e7
      obtain ⟨dx, _, _, _, _, _, _, hs7, _⟩ := id hS7
      refine sqI ⟨_, rfl, a, dx, _, rfl, hs7.slt, _, rfl, a, p, s6, S, rfl, hS7, hW6.wf, stAt hW6, fun H8 t8 k8 hl8 hin8 hout8 hS8 => ?_⟩
      have K8 := k7.trans k8
      have hC8 := csT_kp hS7.far k8 hC7
      dsimp only [gName, List.set_cons_succ, List.set_cons_zero]
      refine sqI (asI ⟨_, rfl, _, rfl, a, p, _, rfl, hS8, fun H9 c9 e9 hc9 hg9 => ?_⟩)
      have K9 := K8.trans (Kp.of e9)
      refine ⟨c9, _, rfl, SqT.of hg9, rfl, _, _, rfl, _, _, rfl, rfl, ?_⟩
      dsimp only [gName, List.set_cons_succ, List.set_cons_zero]
      obtain ⟨xS, hxS, hSx⟩ := pd_at hPp hSt
      obtain ⟨cS, xsS, rfl, hcS, hpS⟩ := stT_kp hfar K9 hSx
      have hcp9 := sqT_kp hfar K9 hcp
      have hct8 : Cont t8 cs6 := ⟨by rw [hl8]; exact hW6.cont.1, fun i v hv => by
        by_cases h : i ∈ plc S
        · rw [hin8 i h] at hv; cases hv
        · rw [hout8 i h] at hv; exact hW6.cont.2 i v hv⟩
      refine sqI ⟨_, rfl, _, rfl, ixT hcp9 (atI_nat (by show xp[s6.ix]? = some (V.ref cS); rw [hW6.ix]; exact hxS)) ⟨cS, rfl, ⟨_, hcS⟩, for_tup (xs := xsS) (fun j σ H' => ∃ vc cs' o6' o9', σ = [some (V.ref b), some (.ref a), some (.ref t), some (.ref cp), some vc, some (nt kk), o6', some (.str (wayS s6.on)), some (nt s6.ix), o9'] ∧ Same H9 H' ∧ CsT K H' vc cs' ∧ Cont t8 cs') ?_ ?_ ?_ ?_⟩⟩
      · exact ⟨vc6, cs6, _, _, rfl, Same.refl _, hC8.mono e9, hct8⟩
      · rintro j σ H' _ ⟨_, _, _, _, _, e, _⟩
        exact same_t e hcS
      · rintro j x σ H10 hj ⟨vc10, cs10, o6', o9', rfl, e10, hC10, hct10⟩
        obtain ⟨q1, hq1, cq, rfl, hcq⟩ := pd_get hpS hj
        have hm1 : q1.1 ∈ plc S := List.mem_map.mpr ⟨q1, List.mem_of_getElem? hq1, rfl⟩
        have hlen10 : cs10.length = s.T.old.length := by rw [hct10.1, hl8, tlen hW6]
        refine ⟨cq, _, rfl, SqT.of (e10 _ _ hcq), rfl, _, _, rfl, _, _, rfl, rfl, ?_⟩
        dsimp only [gName, List.set_cons_succ, List.set_cons_zero]
        refine asI ⟨_, rfl, _, rfl, _, rfl, ?_⟩
        refine ⟨_, _, _, rfl, cs10, q1.1, _, hC10, rfl, rfl, by rw [hlen10]; exact plLow _ hm1, by rw [hlen10]; omega, fun H11 v11 e11 hC11 => ?_⟩
        refine ⟨v11, _, _, _, rfl, e10.trans e11, hC11, by rw [List.length_set]; exact hct10.1, fun i v hv => ?_⟩
        have hne : q1.1 ≠ i := fun z => by rw [← z, hin8 _ hm1] at hv; cases hv
        rw [List.getElem?_set_ne hne]
        exact hct10.2 i v hv
      · rintro σ H10 ⟨vc10, cs10, o6', o9', rfl, e10, hC10, hct10⟩
        have K10 := K9.trans (Kp.of e10)
        have hS10 := hS8.same (e9.trans e10)
        have hW6' : Wk s s6 S cs6 (c + 1000 - 250 * (kk + 1) + 1) := hW6.weak (by omega)
        have hW10 := hW6'.cut hl8 hin8 hout8 hct10
        dsimp only [List.set_cons_succ, List.set_cons_zero]
        refine ifI ⟨_, rfl, _, rfl, ixT (sqT_kp hfar K10 ht) rfl ⟨_, rfl, rdb K10 hS10 hC10 hW10 fun H11 e11 => ⟨true, rfl, tst_f rfl ?_⟩⟩⟩
        exact ⟨vc10, _, cs10, _, _, _, _, _, rfl, K10.trans (Kp.of e11), hS10.same e11, hC10.mono e11, hW10⟩
  · rintro σ H2 ⟨vc, s2, cs2, o5, o6, o7, o8, o9, rfl, k2, hS2, hC2, hW2⟩
    dsimp only [gName, List.set_cons_succ, List.set_cons_zero]
    refine sqI ⟨_, rfl, _, rfl, a, p, s2, S, rfl, hS2, hW2.wf, stAt hW2, fun H3 v3 e3 hv3 => ?_⟩
    obtain ⟨c3, rfl, hc3⟩ := hv3
    have hfl : ((plc S).filter fun k => !s2.whole.contains k).length ≤ (plc S).length := List.length_filter_le _ _
    have hall : ∀ k ∈ plc S, k ∈ s2.whole ∨ k ∈ (plc S).filter fun k => !s2.whole.contains k := fun k hk => by
      by_cases h : k ∈ s2.whole
      · exact .inl h
      · exact .inr (List.mem_filter.mpr ⟨hk, by simpa using h⟩)
    have hmem : ∀ k ∈ (plc S).filter (fun k => !s2.whole.contains k), k ∈ plc S := fun k hk => (List.mem_filter.mp hk).1
    generalize (plc S).filter (fun k => !s2.whole.contains k) = LF at hc3 hfl hall hmem
    refine ⟨c3, rfl, ⟨_, hc3⟩, for_tup (xs := LF.map nt) (fun j σ H' => ∃ vc s'' cs' o6', σ = [some (V.ref b), some (.ref a), some (.ref t), some (.ref cp), some vc, o5, o6', o7, o8, o9] ∧ Kp a p H H' ∧ SqT K H' c3 (LF.map nt) ∧ SoR K H' a p s'' ∧ CsT K H' vc cs' ∧ Wk s s'' S cs' (c + 200 - j) ∧ ∀ k ∈ plc S, k ∈ s''.whole ∨ k ∈ LF.drop j) ?_ ?_ ?_ ?_⟩
    · exact ⟨vc, s2, cs2, _, rfl, k2.trans (Kp.of e3), hc3, hS2.same e3, hC2.mono e3, hW2.weak (by omega), hall⟩
    · rintro j σ H' _ ⟨_, _, _, _, _, _, h, _⟩
      exact h
    · rintro j x σ H6 hj ⟨vc6, s6, cs6, o6', rfl, k6, hc6, hS6, hC6, hW6, hall6⟩
      have hjl := (List.getElem?_eq_some_iff.mp hj).1
      rw [List.length_map] at hjl
      rw [List.getElem?_map] at hj
      obtain ⟨i, hi, rfl⟩ := Option.map_eq_some_iff.mp hj
      have hiS := hmem i (List.mem_of_getElem? hi)
      have hW6' : Wk s s6 S cs6 (c + 200 - (j + 1) + 1) := hW6.weak (by omega)
      dsimp only [gName, List.set_cons_succ, List.set_cons_zero]
      refine asI ⟨_, rfl, _, rfl, _, rfl, wrt k6 hS6 hC6 hW6' hiS fun H8 v8 w8 cs8 k8 hS8 hC8 hW8 hw8 => ?_⟩
      refine ⟨v8, _, cs8, _, rfl, k6.trans k8, sqT_kp hS6.far k8 hc6, hS8, hC8, hW8, fun k hk => ?_⟩
      rcases hall6 k hk with h | h
      · exact .inl ((hw8 k).mpr (.inr h))
      · have hd : LF.drop j = i :: LF.drop (j + 1) := by
          obtain ⟨h3, h4⟩ := List.getElem?_eq_some_iff.mp hi
          rw [← h4]; exact List.drop_eq_getElem_cons h3
        rw [hd] at h
        rcases List.mem_cons.mp h with z | z
        · exact .inl ((hw8 k).mpr (.inl z))
        · exact .inr z
    · rintro σ H6 ⟨vc6, s6, cs6, o6', rfl, k6, hc6, hS6, hC6, hW6, hall6⟩
      rw [List.length_map] at hW6 hall6
      dsimp only [gName, List.set_cons_succ, List.set_cons_zero]
      refine rtI ⟨_, rfl, _, rfl, ixT (sqT_kp hfar k6 ht) rfl ⟨_, rfl, rdb k6 hS6 hC6 hW6 fun H7 e7 => ⟨true, rfl, iteT ⟨_, rfl, ?_⟩⟩⟩⟩
      refine q _ _ s6 cs6 (k6.trans (Kp.of e7)) (hS6.same e7) (hC6.mono e7) (hW6.weak (by omega)) fun k hk => ?_
      rcases hall6 k hk with h | h
      · exact h
      · rw [List.drop_length] at h; cases h
end Wm
set_option Elab.async false
set_option linter.all false
set_option maxRecDepth 100000
set_option maxHeartbeats 4000000
/-! plain: between the stretches -/
namespace Wm
open PySem PySem.Spec PyProof.Rows L2
/-- the Store between two stretches -/
def sAt (T : Task) (P : Plan) (i n : Nat) : Sst := ⟨T, P, i, (lastL T.old (P.take i)).map some, [], true, n⟩
theorem s0_at (T : Task) (P : Plan) : s0 T P = sAt T P 0 0 := rfl
theorem sel_all : ∀ (L : Lay) (k : Nat), selF (fun i (_ : Option Nat) => !([] : List Nat).contains i) (fun _ o => o) k L = L
  | [], _ => rfl
  | o :: L, k => by
    show (if (!([] : List Nat).contains k) = true then o :: selF (fun i (_ : Option Nat) => !([] : List Nat).contains i) (fun _ o => o) (k + 1) L else _) = _
    rw [if_pos (by simp), sel_all L (k + 1)]
theorem safe_nil {ns : List Nat} {L : Lay} (r : Right ns L) : Safe ns L [] := fun v n hv => by
  have e : outs L [] = L := sel_all L 0
  rw [e]
  exact r.many v n hv
section
variable {T : Task} {P : Plan} {i n : Nat} {S : Stretch} {cs : List Int} {c : Nat}
theorem tl_at (k : Nat) : (sAt T P i n).told[k]? = (lastL T.old (P.take i))[k]?.map some := by
  show ((lastL T.old (P.take i)).map some)[k]? = _
  rw [List.getElem?_map]
theorem len_at : (sAt T P i n).told.length = T.old.length := by
  show ((lastL T.old (P.take i)).map some).length = _
  rw [List.length_map, lastL_len]
theorem wf_at (h : DoOk T P) (hn : n ≤ 10000000) : Wf (sAt T P i n) :=
  ⟨List.nodup_nil, fun k hk => (by cases hk), len_at, by show T.old.length ≤ 100; have := h.lo; omega, h.lp, by show T.ns.length ≤ 100; have := h.ln; omega, h.p, hn⟩
/-- a stretch begins -/
theorem wk_at (h : DoOk T P) (hS : P[i]? = some S) (hn : n + c ≤ 10000000) (hc : Cont (sAt T P i n).told cs) : Wk (sAt T P i n) (sAt T P i n) S cs c := by
  have hwf : Wf (sAt T P i n) := wf_at h (by omega)
  refine ⟨hn, rfl, rfl, rfl, rfl, hwf, ⟨?_, fun k _ => tl_at k⟩, fun k hk => .inr (.inl ?_), fun k hk => (by cases hk), hc⟩
  · show ((lastL T.old (P.take i)).map some).length = _
    rw [List.length_map]; rfl
  · rw [tl_at]
    have g := goodP_all_at h.p hS
    obtain ⟨q1, hq1, rfl⟩ := List.mem_map.mp hk
    rw [getD_get (g.low q1 hq1).1]
    rfl
theorem small_at (h : DoOk T P) : Small (sAt T P i n).told := fun k v hv => by
  rw [tl_at] at hv
  cases hL : (lastL T.old (P.take i))[k]? with
  | none => rw [hL] at hv; cases hv
  | some o =>
    rw [hL] at hv
    have : o = some v := by simpa using hv
    subst this
    have := (right_at h.t.old h.p i).val v (List.mem_of_getElem? hL)
    have := h.ln
    omega
theorem many_at (h : DoOk T P) : ∀ v n' : Nat, T.ns[v]? = some n' → n' ≤ (rd (sAt T P i n).told v).length := fun v n' hv =>
  rd_many (L := lastL T.old (P.take i)) (P := []) ⟨by rw [len_at, lastL_len], fun k _ => tl_at k⟩ (safe_nil (right_at h.t.old h.p i)) hv
end
section
variable {s s' : Sst} {S : Stretch} {cs : List Int} {c : Nat}
/-- turned about -/
theorem Wk.turned (h : Wk s s' S cs (c + 2)) : Wk s { s' with on := !(!s'.on), whole := [], n := s'.n + 1 + 1 } S cs c := by
  have hf := h.fu
  have w := h.wf
  refine ⟨by show s'.n + 1 + 1 + c ≤ _; omega, h.T, h.P, h.ix, by show (!(!s'.on)) = _; rw [Bool.not_not]; exact h.on, ⟨List.nodup_nil, fun k hk => (by cases hk), w.tl, w.l1, w.l2, w.l3, w.gp, by show s'.n + 1 + 1 ≤ _; omega⟩, h.out, h.ins, fun k hk => (by cases hk), h.cont⟩
theorem Wk.wf1 (h : Wk s s' S cs (c + 2)) : Wf { s' with on := !s'.on, whole := [], n := s'.n + 1 } := by
  have hf := h.fu
  have w := h.wf
  exact ⟨List.nodup_nil, fun k hk => (by cases hk), w.tl, w.l1, w.l2, w.l3, w.gp, by show s'.n + 1 ≤ _; omega⟩
/-- all is written -/
theorem Wk.told (h : Wk s s' S cs c) (hS : s.P[s.ix]? = some S) (ha : ∀ k ∈ plc S, k ∈ s'.whole) : s'.told = (lastL s.T.old (s.P.take (s.ix + 1))).map some := by
  have g := h.gs hS
  have hl : (lastL s.T.old (s.P.take (s.ix + 1))) = ledS (lastL s.T.old (s.P.take s.ix)) S := by
    rw [List.take_add_one, hS]
    show lastL s.T.old (s.P.take s.ix ++ [S]) = _
    rw [lastL_snoc]
  rw [hl]
  refine List.ext_getElem? fun k => ?_
  rw [List.getElem?_map]
  by_cases hk : k ∈ plc S
  · rw [(h.wh k (ha k hk)).2, wantAt_eq hS]
    obtain ⟨q1, hq1, rfl⟩ := List.mem_map.mp hk
    rw [getD_get (L := ledS (lastL s.T.old (s.P.take s.ix)) S) (i := q1.1) (by rw [ledS_len]; exact (g.low q1 hq1).1)]
    rfl
  · rw [h.out.2 k hk, ledS_out hk]
end
end Wm
set_option Elab.async false
set_option linter.all false
set_option maxRecDepth 100000
set_option maxHeartbeats 4000000
/-! the bag -/
namespace Wm
open PySem PySem.Spec PyProof.Rows L2
def pBag (K : PySem.W.Frag) (x : V) (H : Hp) (Q : VK) : Prop := ∃ (a : Addr) (ns : List Int), x = .ref a ∧ SqL K H a (ns.map V.int) ∧ (∀ H' b, Same H H' → Bag H' b → Q (.ref b) H')
theorem ls4 {t : TE} {v1 v2 v3 : V} {σ : L2.St} {H : Hp} {Q : VK} (h : t σ H fun x H1 => 4 ≤ sizeLine ∧ ∀ p, H1 p = none → Q (.ref p) (upd H1 p (.lst [v1, v2, v3, x]))) : tLst (tCons (tC v1) (tCons (tC v2) (tCons (tC v3) (tCons t tNil)))) σ H Q := h
theorem sc_law_bag : FnScope ["_law_script", "_law_cell"] ["_law_script"] (defScope s_law_bag) := ⟨rfl, rfl, rfl, by decide +kernel, rfl, by decide +kernel, by decide +kernel⟩
theorem d_law_bag {P : Program} {w : World} {K : PySem.W.Frag} {mg : Str → Option Value} {base : Heap} (W : Wd K mg base) : DnG P w K mg base 1 "_law_bag" (sp1 (pBag K)) := by
  refine W.dnG (st := s_law_bag) (ps := ["_law_script"]) 19 19 rfl rfl (fun _ _ _ _ _ _ us hl => match us, hl with | [_], _ => rfl) fun f fd F => ?_
  refine FnG.ofD F sc_law_bag (fun vs H Q E h => ?_) (fun cdv A outer s H vs Q E hg hr h => ?_)
  · obtain ⟨_, rfl, _⟩ := h; rfl
  obtain ⟨x, rfl, h⟩ := h
  refine ⟨_, PSs.nox (pss_bagNew (pss_one (ps_ret (pe_lst (pa_cons pe_int (pa_cons pe_int (pa_cons pe_int (pa_cons (pe_lc (own := [("_law_cell", 1)]) rfl sc_law_bag.nd (pi_listK (K := K) (pe_slice (sl_any (K := K)) (pv 0) po_none (po_some pe_int))) (blkOk_by (by kernel_rfl)) (fun _ _ _ _ _ => (pg_name (i := 1) sc_law_bag.nd rfl (Or.inl rfl))) (fun _ _ _ _ _ => pts_nil) (fun _ _ _ _ _ => (pe_callB call_abs rfl (W.free 84) boot_abs (pa_cons (pv 1) pa_nil)))) pa_nil)))))))), ?_⟩
  obtain ⟨a, ns, rfl, ha, q⟩ := h
  refine rtI (ls4 (lcI ?_))
  refine ⟨_, rfl, 63, rfl, .inl ⟨a, ns.map V.int, rfl, ha, fun p hp => ?_⟩⟩
  have ec : cutV (ns.map V.int) none (some 63) = (ns.take 63).map V.int := (cut_take _ 63).trans (List.map_take).symm
  rw [ec]
  have t1 := Same.new (o := .lst ((ns.take 63).map V.int)) hp
  refine ⟨p, rfl, ⟨_, SqL.of upd_same⟩, mpL (ns.take 63) V.int (fun i => .int (if i < 0 then -i else i)) (SqL.of upd_same) (by rw [List.length_take]; omega) (fun i H' hi e Z hz => ?_) fun D H' hD e h => ?_⟩
  · exact ⟨rfl, _, rfl, _, rfl, hz _ (Same.refl _)⟩
  · refine ⟨by show 4 ≤ sizeLine; decide, fun p2 hp2 => ⟨p2, D, _, _, _, rfl, upd_same, ?_⟩⟩
    have e2 := t1.trans e
    have hDp : D ≠ p2 := fun z => by rw [← z, h] at hp2; cases hp2
    refine q _ _ ?_ ⟨D, (ns.take 63).map (fun i => if i < 0 then -i else i), upd_same, ?_, ?_⟩
    · rw [upd_upd]; exact Same.mut e2 (ne_none_of e2 hp2)
    · rw [upd_ne hDp, upd_ne hDp, h, List.map_map]; rfl
    · rw [List.length_map, List.length_take]; omega
end Wm
set_option Elab.async false
set_option linter.all false
set_option maxRecDepth 100000
set_option maxHeartbeats 4000000
/-! the law -/
namespace Wm
open PySem PySem.Spec PyProof.Rows L2
def pLaw (K : PySem.W.Frag) (x : V) (H : Hp) (Q : VK) : Prop := ∃ (a : Addr) (ns : List Int), x = .ref a ∧ SqL K H a (ns.map V.int) ∧ ∀ H', Q (.bl true) H'
def ctV : Option Nat → Int
  | some v => 1000 + (v : Int)
  | none => -1
theorem cont0 (T : Task) (P : Plan) : Cont (sAt T P 0 0).told (T.old.map ctV) := by
  refine ⟨by rw [List.length_map, len_at], fun i v hv => ?_⟩
  rw [tl_at] at hv
  have h : T.old[i]? = some (some v) := by
    cases hL : T.old[i]? with
    | none =>
      have hv' : T.old[i]?.map some = some (some (some v)) := hv
      rw [hL] at hv'; cases hv'
    | some o =>
      have hv' : T.old[i]?.map some = some (some (some v)) := hv
      rw [hL] at hv'
      have : o = some v := by simpa using hv'
      rw [this]
  rw [List.getElem?_map, h]; rfl
theorem oks_on {i : Nat} (hi : i < 1024) : ∀ d ∈ [PyData.str "on", PyData.int ((i : Nat) : Int)], okF d := fun d hd => by
  rcases List.mem_cons.mp hd with h | hd
  · rw [h]; exact .on
  · rcases List.mem_cons.mp hd with h | hd
    · rw [h]; exact .int i hi
    · cases hd
theorem map_some (L : Lay) : (L.map some).map tlV = L.map it := by rw [List.map_map]; rfl
theorem pick4 {v : V} {a b c d : Nat} {H : Hp} (h : v ∈ [nt a, nt b, nt c, nt d]) (ha : a ≤ 20) (hb : b ≤ 20) (hc : c ≤ 20) (hd : d ≤ 20) : ∃ k : Nat, v = nt k ∧ k ≤ 20 := by
  simp only [List.mem_cons, List.not_mem_nil, or_false] at h
  rcases h with h | h | h | h
  · exact ⟨_, h, ha⟩
  · exact ⟨_, h, hb⟩
  · exact ⟨_, h, hc⟩
  · exact ⟨_, h, hd⟩
theorem at_end {T : Task} {P : Plan} {i n : Nat} {S : Stretch} {s : Sst} {cs : List Int} {c : Nat} (h : Wk (sAt T P i n) s S cs c) (hS : P[i]? = some S) (ha : ∀ k ∈ plc S, k ∈ s.whole) :
    ({ s with ix := s.ix + 1, whole := [], n := s.n + 1 } : Sst) = sAt T P (i + 1) (s.n + 1) := by
  have h1 := h.T
  have h2 := h.P
  have h3 := h.ix
  have h4 := h.on
  have h5 := h.told hS ha
  show Sst.mk s.T s.P (s.ix + 1) s.told [] s.on (s.n + 1) = _
  rw [h1, h2, h3, h4, h5]
  rfl
theorem sc_law : FnScope ["_law_script", "_law_bag_here", "_law_item", "_law_turn", "_law_task_here", "_law_plan", "_law_store", "_law_contents", "_law_index", "_law_layout"] ["_law_script"] (defScope s_law) := ⟨rfl, rfl, rfl, by decide +kernel, rfl, by decide +kernel, by decide +kernel⟩
theorem d_law {P : Program} {w : World} {K : PySem.W.Frag} {mg : Str → Option Value} {base : Heap} (W : Wd K mg base) : DnG P w K mg base 10 "law" (sp1 (pLaw K)) := by
  refine W.dnG (st := s_law) (ps := ["_law_script"]) 55 55 rfl rfl (fun _ _ _ _ _ _ us hl => match us, hl with | [_], _ => rfl) fun f fd F => ?_
  refine FnG.ofD F sc_law (fun vs H Q E h => ?_) (fun cdv A outer s H vs Q E hg hr h => ?_)
  · obtain ⟨_, rfl, _⟩ := h; rfl
  have hu := hr.units
  have SC := W.sc
  obtain ⟨x, rfl, h⟩ := h
  refine ⟨_, PSs.nox (pss_cons (ps_set (i := 1) sc_law.nd rfl (Or.inl rfl) (pe_fnG (d_law_bag W) hg (hr.mono (by decide)) rfl (pa_cons (pv 0) pa_nil)))
      (pss_cons (ps_for PassesOwn.never rfl (pi_range1 rfl (W.free 72) (pa_cons pe_int pa_nil)) (pg_name (i := 3) sc_law.nd rfl (Or.inl rfl)) (pss_cons (ps_asg (pe_fnG (d_law_safe_doing W) hg (hr.mono (by decide)) rfl (pa_cons (pv 1) (pa_cons (pe_fnG (d_law_some W) hg (hr.mono (by decide)) rfl (pa_cons (pv 1) (pa_cons (pe_lst (pa_cons pe_int (pa_cons pe_int (pa_cons pe_int (pa_cons pe_int pa_nil))))) pa_nil))) (pa_cons (pe_fnG (d_law_some W) hg (hr.mono (by decide)) rfl (pa_cons (pv 1) (pa_cons (pe_lst (pa_cons pe_int (pa_cons pe_int (pa_cons pe_int (pa_cons pe_int pa_nil))))) pa_nil))) pa_nil)))) (pg_tupK (K := K) (n := 2) rfl (pgs_cons (pg_name (i := 4) sc_law.nd rfl (Or.inl rfl)) (pgs_cons (pg_name (i := 5) sc_law.nd rfl (Or.inl rfl)) pgs_nil))))
      (pss_cons (ps_set (i := 6) sc_law.nd rfl (Or.inl rfl) (StX.pe_makeR (He.mkr_ok (W.says.fact 57 rfl)) (dm_init W).fn (hr.mono (by decide)) rfl (W.glo 56) pass0 (pa_cons (pv 4) (pa_cons (pv 5) pa_nil))))
      (pss_cons (ps_set (i := 7) sc_law.nd rfl (Or.inl rfl) (pe_callTy call_tuple_of rfl (W.free 76) boot_tuple (pa_cons (pe_lc (own := [("_law_item", 2)]) rfl sc_law.nd (pi_tupK (K := K) (pe_ix (ix_any (K := K)) (pv 4) pe_int (fun _ _ => rfl))) (blkOk_by (by kernel_rfl)) (fun _ _ _ _ _ => (pg_name (i := 2) sc_law.nd rfl (Or.inl rfl))) (fun _ _ _ _ _ => pts_nil) (fun _ _ _ _ _ => (pe_ifExp (pt_cmpR op_notN (pv 2) pe_non (nomark _)) (pe_op (op_addA (K := K)) pe_int (pv 2)) (pe_un un_neg pe_int)))) pa_nil)))
      (pss_cons (ps_for PassesOwn.never rfl (pi_range1 rfl (W.free 72) (pa_cons (pe_callB (call_lenK (K := K)) rfl (W.free 71) PySem.boot_len (pa_cons (pv 5) pa_nil)) pa_nil)) (pg_name (i := 8) sc_law.nd rfl (Or.inl rfl)) (pss_cons (ps_if (pt_not (pt_val (pe_fnG (d_law_alike W) hg (hr.mono (by decide)) rfl (pa_cons (pe_fnG (d_going_on W).g hg (hr.mono (by decide)) rfl (pa_cons (pv 6) pa_nil)) (pa_cons (pe_tup (pa_cons pe_str (pa_cons (pv 8) pa_nil))) pa_nil))))) (pss_one (ps_ret pe_bl)) pss_nil)
      (pss_cons (ps_set (i := 7) sc_law.nd rfl (Or.inl rfl) (pe_fnG (d_law_is_walked W) hg (hr.mono (by decide)) rfl (pa_cons (pv 1) (pa_cons (pv 6) (pa_cons (pv 4) (pa_cons (pv 5) (pa_cons (pv 7) pa_nil)))))))
      (pss_cons (ps_if (pt_cmpR op_isN (pv 7) pe_non (nomark _)) (pss_one (ps_ret pe_bl)) pss_nil)
      (pss_cons (ps_if (pt_cmpR (op_eqA hu (K := K)) (pe_fnG (d_law_take W) hg (hr.mono (by decide)) rfl (pa_cons (pv 1) (pa_cons pe_int pa_nil))) pe_int (nomark _)) (pss_cons (ps_expr (pe_mt0 (dm_turn W) SC (hr.mono (by decide)) (pv 6)))
      (pss_cons (ps_expr (pe_mt0 (dm_turn W) SC (hr.mono (by decide)) (pv 6)))
      (pss_cons (ps_if (pt_cmpR (op_eqA hu (K := K)) (pe_fnG (d_left_to_write W).g hg (hr.mono (by decide)) rfl (pa_cons (pv 6) pa_nil)) (pe_tup pa_nil) (nomark _)) (pss_one (ps_ret pe_bl)) pss_nil)
      (pss_cons (ps_set (i := 7) sc_law.nd rfl (Or.inl rfl) (pe_fnG (d_law_is_walked W) hg (hr.mono (by decide)) rfl (pa_cons (pv 1) (pa_cons (pv 6) (pa_cons (pv 4) (pa_cons (pv 5) (pa_cons (pv 7) pa_nil)))))))
      (pss_one (ps_if (pt_cmpR op_isN (pv 7) pe_non (nomark _)) (pss_one (ps_ret pe_bl)) pss_nil)))))) pss_nil)
      (pss_cons (ps_expr (pe_mt0 (dm_mark W) SC (hr.mono (by decide)) (pv 6)))
      (pss_one (ps_if (pt_not (pt_val (pe_fnG (d_law_is_readable W) hg (hr.mono (by decide)) rfl (pa_cons (pv 6) (pa_cons (pe_ix (ix_any (K := K)) (pv 4) pe_int (fun _ _ => rfl)) (pa_cons (pv 7) pa_nil)))))) (pss_one (ps_ret pe_bl)) pss_nil))))))))
      (pss_cons (ps_set (i := 9) sc_law.nd rfl (Or.inl rfl) (pe_ix (ix_any (K := K)) (pe_fnG (d_law_layouts W) hg (hr.mono (by decide)) rfl (pa_cons (pv 4) (pa_cons (pv 5) pa_nil))) (pe_un un_neg pe_int) (fun _ _ => rfl)))
      (pss_one (ps_if (PW.pt (pw_or (pt_not (pt_val (pe_fnG (d_law_alike W) hg (hr.mono (by decide)) rfl (pa_cons (pe_fnG (d_shown W).g hg (hr.mono (by decide)) rfl (pa_cons (pv 6) pa_nil)) (pa_cons (pv 9) pa_nil))))) (pw_or1 (pt_not (pt_val (pe_fnG (d_law_is_wanted W) hg (hr.mono (by decide)) rfl (pa_cons (pe_ix (ix_any (K := K)) (pv 4) pe_int (fun _ _ => rfl)) (pa_cons (pe_fnG (d_shown W).g hg (hr.mono (by decide)) rfl (pa_cons (pv 6) pa_nil)) pa_nil)))))))) (pss_one (ps_ret pe_bl)) pss_nil))))))))
      (pss_one (ps_ret pe_bl)))), ?_⟩
  rw [show L2.start ["_law_script", "_law_bag_here", "_law_item", "_law_turn", "_law_task_here", "_law_plan", "_law_store", "_law_contents", "_law_index", "_law_layout"] [x] = [some x, none, none, none, none, none, none, none, none, none] from rfl]
  obtain ⟨a0, ns, rfl, ha0, q⟩ := h
  refine sqI (asI ⟨_, rfl, _, rfl, a0, ns, rfl, ha0, fun H1 b e1 hb => ?_⟩)
  dsimp only [gName, List.set_cons_succ, List.set_cons_zero]
  refine sqI (frI (frN (m := 3) (by decide) (forRng (fun tt σ H' => (∃ o2 o3 o4 o5 o6 o7 o8 o9, σ = [some (V.ref a0), some (.ref b), o2, o3, o4, o5, o6, o7, o8, o9]) ∧ Bag H' b) ?_ ?_ ?_)))
  · exact ⟨⟨_, _, _, _, _, _, _, _, rfl⟩, hb⟩
  · rintro tt σ H2 htt ⟨⟨o2, o3, o4, o5, o6, o7, o8, o9, rfl⟩, hb2⟩
    dsimp only [gName, List.set_cons_succ, List.set_cons_zero]
    refine sqI (asI ⟨_, rfl, _, rfl, (by show 4 ≤ sizeLine; decide), fun p3 hp3 => ⟨_, _, rfl, b, p3, _, rfl, rfl, hb2.mono (Same.new hp3), SqL.of upd_same, by simp, by decide, fun H4 v4 e4 hv4 => ?_⟩⟩)
    obtain ⟨m1, rfl, hm1⟩ := pick4 (H := H4) (a := 6) (b := 8) (c := 4) (d := 12) hv4 (by decide) (by decide) (by decide) (by decide)
    have hb4 := (hb2.mono (Same.new hp3)).mono e4
    refine ⟨_, rfl, (by show 4 ≤ sizeLine; decide), fun p5 hp5 => ⟨_, _, rfl, b, p5, _, rfl, rfl, hb4.mono (Same.new hp5), SqL.of upd_same, by simp, by decide, fun H6 v6 e6 hv6 => ?_⟩⟩
    obtain ⟨m2, rfl, hm2⟩ := pick4 (H := H6) (a := 3) (b := 5) (c := 2) (d := 6) hv6 (by decide) (by decide) (by decide) (by decide)
    have hb6 := (hb4.mono (Same.new hp5)).mono e6
    refine ⟨_, _, _, rfl, b, m1, m2, rfl, hb6, rfl, rfl, hm1, hm2, fun H7 v7 T P e7 ⟨c7, tv, pv, ec, hc7, hT, hP⟩ hok => ?_⟩
    subst ec
    have hb7 := hb6.mono e7
    clear hb6 hb4 hb2 e7 e6 e4 hp3 hp5 hv4 hv6
    refine ⟨c7, _, rfl, hc7, rfl, _, _, rfl, _, _, rfl, rfl, ?_⟩
    dsimp only [gName, List.set_cons_succ, List.set_cons_zero]
    obtain ⟨t, n1, o1, w1, rfl, ht, hns, hold, hwish⟩ := (id hT).open
    obtain ⟨cp, xp, rfl, hcp, hPp⟩ := id hP
    obtain ⟨cn, rfl, hcn⟩ := id hns
    obtain ⟨co, rfl, hco⟩ := id hold
    have hlp := hok.lp
    have hlo := hok.lo
    have hln := hok.ln
    have hxl := hPp.length
    refine sqI (asI ⟨_, rfl, _, rfl, fun a dx ha hdx hne => ⟨_, _, _, rfl, H7, a, dx, T, P, rfl, rfl, ha, hdx, hne, hT, hP, hok, fun H8 p e8 hp hS8 => ⟨rfl, ?_⟩⟩⟩)
    dsimp only [gName, List.set_cons_succ, List.set_cons_zero]
    refine sqI (asI (cb1 (lcI ⟨_, rfl, ixT (same_t e8 ht) rfl ⟨co, rfl, ⟨_, same_t e8 hco⟩, mpT T.old it (fun o => .int (ctV o)) (same_t e8 hco) (by omega) (fun o H' ho e Z hz => ?_) fun D H9 hD e9 h9 => ⟨D, _, rfl, .inl ⟨SqL.of h9, fun l hl => ?_⟩⟩⟩⟩)))
    · cases o with
      | none => exact ⟨rfl, _, rfl, rfl, false, rfl, iteF ⟨_, rfl, hz _ (Same.refl _)⟩⟩
      | some v => exact ⟨rfl, _, rfl, rfl, true, rfl, iteT ⟨_, rfl, .inl ⟨_, _, rfl, rfl, hz _ (Same.refl _)⟩⟩⟩
    have e910 := e9.trans (Same.new (o := .tup (T.old.map fun o => V.int (ctV o))) hl)
    have hC10 : CsT K (upd H9 l (.tup (T.old.map fun o => V.int (ctV o)))) (.ref l) (T.old.map ctV) := ⟨l, rfl, SqT.of (by rw [upd_same, List.map_map]; rfl)⟩
    have hS10 := hS8.same e910
    have e710 := e8.trans e910
    dsimp only [gName, List.set_cons_succ, List.set_cons_zero]
    generalize upd H9 l (.tup (T.old.map fun o => V.int (ctV o))) = H10 at e910 hC10 hS10 e710 ⊢
    clear h9 hl e9 hS8 e8
    have EE : ∀ {H'}, Kp a p H10 H' → Same H7 H' := fun k => Kp.back e710 k ha hp
    refine sqI (frI ⟨_, rfl, cp, xp, rfl, .inr (same_t e710 hcp), frN (m := xp.length) (by omega) (forRng (fun i σ H' => ∃ vc cs n, (∃ o2 o8 o9, σ = [some (V.ref a0), some (.ref b), o2, some (nt tt), some (.ref t), some (.ref cp), some (.ref a), some vc, o8, o9]) ∧ Kp a p H10 H' ∧ SoR K H' a p (sAt T P i n) ∧ n ≤ 3000 * i ∧ CsT K H' vc cs ∧ Cont (sAt T P i n).told cs) ?_ ?_ ?_)⟩)
    · exact ⟨.ref l, _, 0, ⟨_, _, _, rfl⟩, Kp.refl, hS10, Nat.zero_le _, hC10, cont0 T P⟩
    · rintro i σ H11 hi ⟨vc, cs, n, ⟨o2', o8', o9', rfl⟩, k11, hS11, hn, hC11, hct⟩
      have hiP : i < P.length := by omega
      obtain ⟨S, hSt⟩ : ∃ S, P[i]? = some S := ⟨P[i], List.getElem?_eq_getElem hiP⟩
      dsimp only [gName, List.set_cons_succ, List.set_cons_zero]
      refine sqI (ifI ⟨_, rfl, _, rfl, a, p, _, rfl, hS11, fun H12 c12 e12 hc12 hg12 => ⟨_, rfl, (by show 2 ≤ sizeLine; decide), fun p13 hp13 => ?_⟩⟩)
      have t13 := Same.new (o := .tup [V.str "on", nt i]) hp13
      have oks := oks_on (i := i) (by omega)
      have okt := okA_tup oks (by show 2 ≤ 1000; decide)
      have hg13 : SqT K (upd H12 p13 (.tup [V.str "on", nt i])) c12 [V.str "on", nt i] := SqT.of (t13 _ _ hg12)
      refine ⟨_, _, rfl, _, _, .tup hg13 (.cons (.str _) (.cons (.int _) .nil)), .tup (SqT.of upd_same) (.cons (.str _) (.cons (.int _) .nil)), okt, okt, (eqv_tup oks oks).mp, (eqv_tup oks oks).mpr, fun _ => ⟨true, rfl, tst_f rfl ?_⟩, fun h => absurd rfl h⟩
      have k13 := k11.trans (Kp.of (e12.trans t13))
      have hS13 := hS11.same (e12.trans t13)
      have hC13 := hC11.mono (e12.trans t13)
      generalize upd H12 p13 (.tup [V.str "on", nt i]) = H13 at k13 hS13 hC13 ⊢
      refine nxI ?_
      dsimp only
      have hwk : Wk (sAt T P i n) (sAt T P i n) S cs (10000000 - 3000 * i - 1000 + 1000) := wk_at hok hSt (by omega) hct
      refine sqI (asI ⟨_, rfl, _, rfl, _, rfl, _, rfl, _, rfl, ⟨_, _, _, _, _, rfl, H7, b, a, p, sAt T P i n, sAt T P i n, S, cs, 10000000 - 3000 * i - 1000, rfl, rfl, EE k13, ha, hp, hb7, hS13, hT.mono (EE k13), hP.mono (EE k13), hC13, hwk, rfl, hSt, hok.t, fun H15 v15 s15 cs15 k15 hS15 hC15 hW15 hall15 => ?_⟩⟩)
      obtain ⟨c15, rfl, hc15⟩ := id hC15
      have K15 := k13.trans k15
      dsimp only [gName, List.set_cons_succ, List.set_cons_zero]
      refine sqI (ifI ⟨_, rfl, rfl, false, rfl, tst_f rfl ?_⟩)
      refine nxI ?_
      dsimp only
      refine seq_cut (fun σ' H' => ∃ vc s'' cs', σ' = [some (V.ref a0), some (.ref b), o2', some (nt tt), some (.ref t), some (.ref cp), some (.ref a), some vc, some (nt i), o9'] ∧ Kp a p H10 H' ∧ SoR K H' a p s'' ∧ CsT K H' vc cs' ∧ Wk (sAt T P i n) s'' S cs' (10000000 - 3000 * i - 2002) ∧ ∀ k ∈ plc S, k ∈ s''.whole) (fun nx hnx => ?_) ?_
      · refine ifI ⟨_, rfl, _, _, rfl, b, 8, rfl, rfl, hb7.mono (EE K15), by decide, by decide, fun H16 r16 e16 hr16 => .inl ⟨rfl, _, rfl, tst (fun c1 => ?_) fun c1 => hnx _ _ ⟨_, s15, cs15, rfl, K15.trans (Kp.of e16), hS15.same e16, hC15.mono e16, hW15.weak (by omega), hall15⟩⟩⟩
        have hS16 := hS15.same e16
        have hC16 := hC15.mono e16
        have K16 := K15.trans (Kp.of e16)
        have hW15' : Wk (sAt T P i n) s15 S cs15 (10000000 - 3000 * i - 2002 + 1000 + 2) := hW15.weak (by omega)
        have hlt : s15.ix < s15.P.length := by rw [hW15.ix, hW15.P]; exact hiP
        obtain ⟨dx16, _, _, _, _, _, _, hs16, _⟩ := id hS16
        refine sqI ⟨_, rfl, a, dx16, _, rfl, hs16.slt, _, rfl, a, p, s15, rfl, hS16, hW15.wf, hlt, fun H17 k17 hS17 => ?_⟩
        obtain ⟨dx17, _, _, _, _, _, _, hs17, _⟩ := id hS17
        refine sqI ⟨_, rfl, a, dx17, _, rfl, hs17.slt, _, rfl, a, p, _, rfl, hS17, hW15'.wf1, hlt, fun H18 k18 hS18 => ?_⟩
        have hW18 := hW15'.turned
        have hC18 := csT_kp hS17.far k18 (csT_kp hS16.far k17 hC16)
        have K18 := (K16.trans k17).trans k18
        dsimp only
        refine sqI (ifI ⟨_, rfl, _, rfl, a, p, _, S, rfl, hS18, hW18.wf, (by show s15.P[s15.ix]? = some S; rw [hW15.P, hW15.ix]; exact hSt), fun H19 v19 e19 hv19 => ?_⟩)
        obtain ⟨c19, rfl, hc19⟩ := hv19
        have hne19 : (((plc S).filter fun k => !([] : List Nat).contains k).map nt).isEmpty = false := by
          have gne := (goodP_all_at hok.p hSt).ne
          have : ((plc S).filter fun k => !([] : List Nat).contains k) = plc S := List.filter_eq_self.mpr fun k _ => by simp
          rw [this]
          cases S with
          | nil => exact absurd rfl gne
          | cons _ _ => rfl
        refine ⟨by decide, fun p20 hp20 => eqNilT (same_t (Same.new hp20) hc19) (dpa_nt _) (ok_nts _) (SqT.of upd_same) ⟨_, rfl, tst_f hne19 ?_⟩⟩
        have t20 := e19.trans (Same.new (o := .tup []) hp20)
        have K20 := K18.trans (Kp.of t20)
        have hS20 := hS18.same t20
        have hC20 := hC18.mono t20
        generalize upd H19 p20 (.tup []) = H20 at K20 hS20 hC20 ⊢
        refine nxI ?_
        dsimp only
        refine sqI (asI ⟨_, rfl, _, rfl, _, rfl, _, rfl, _, rfl, ⟨_, _, _, _, _, rfl, H7, b, a, p, sAt T P i n, _, S, cs15, 10000000 - 3000 * i - 2002, rfl, rfl, EE K20, ha, hp, hb7, hS20, hT.mono (EE K20), hP.mono (EE K20), hC20, hW18, rfl, hSt, hok.t, fun H21 v21 s21 cs21 k21 hS21 hC21 hW21 hall21 => ?_⟩⟩)
        obtain ⟨c21, rfl, hc21⟩ := id hC21
        dsimp only [gName, List.set_cons_succ, List.set_cons_zero]
        refine ifI ⟨_, rfl, rfl, false, rfl, tst_f rfl ?_⟩
        exact hnx _ _ ⟨_, s21, cs21, rfl, K20.trans k21, hS21, hC21, hW21, hall21⟩
      · rintro σ H22 ⟨vc22, s22, cs22, rfl, K22, hS22, hC22, hW22, hall22⟩
        obtain ⟨dx22, _, _, _, _, _, _, hs22, _⟩ := id hS22
        refine sqI ⟨_, rfl, a, dx22, _, rfl, hs22.slt, _, rfl, a, p, s22, S, rfl, hS22, hW22.wf, hW22.on, (by rw [hW22.P, hW22.ix]; exact hSt), hall22, fun H23 k23 hS23 => ?_⟩
        have es := at_end hW22 hSt hall22
        have K23 := K22.trans k23
        have hC23 := csT_kp hS22.far k23 hC22
        have hfu := hW22.fu
        have hct23 : Cont (sAt T P (i + 1) (s22.n + 1)).told cs22 := by rw [← es]; exact hW22.cont
        rw [es] at hS23
        dsimp only
        refine ifI ⟨_, rfl, _, rfl, ixT (same_t (EE K23) ht) rfl ⟨_, rfl, ⟨_, _, _, rfl, a, p, _, cs22, rfl, hS23, ⟨cn, rfl, same_t (EE K23) hcn⟩, hC23, by rw [len_at]; omega, by show T.ns.length ≤ 100; omega, small_at hok, hct23, hok.t.pos, many_at hok, fun H24 e24 => ⟨true, rfl, tst_f rfl ?_⟩⟩⟩⟩
        exact ⟨vc22, cs22, s22.n + 1, ⟨_, _, _, rfl⟩, K23.trans (Kp.of e24), hS23.same e24, by omega, hC23.mono e24, hct23⟩
    · rintro σ H25 ⟨vc, cs, n, ⟨o2', o8', o9', rfl⟩, k25, hS25, hn, hC25, hct⟩
      rw [hxl] at hS25
      have hfin : (sAt T P P.length n).told = (lastL T.old P).map some := by
        show (lastL T.old (P.take P.length)).map some = _
        rw [List.take_length]
      have hll := lastL_len P T.old
      dsimp only [gName, List.set_cons_succ, List.set_cons_zero]
      refine sqI (asI ⟨_, rfl, _, rfl, _, _, rfl, T, P, hT.mono (EE k25), hP.mono (EE k25), hok.p, by omega, hlp, fun H26 p26 xs26 e26 h26 hl26 => ?_⟩)
      have E26 := (EE k25).trans e26
      have hlst : (lays T.old P)[P.length]? = some (lastL T.old P) := by
        rw [lays_get _ _ _ (Nat.le_refl _), List.take_length]
      obtain ⟨z, hz, hzL⟩ := pd_at hl26 hlst
      have hlen2 : xs26.length = P.length + 1 := by rw [hl26.length, lays_len]
      obtain ⟨zs, z', e⟩ := len_last (ls := xs26) (fun e => by rw [e] at hlen2; simp at hlen2)
      have hlast : atI xs26 (-1) = some z := by
        subst e
        have : zs.length = P.length := by simpa using hlen2
        rw [List.getElem?_append_right (by omega), this, Nat.sub_self] at hz
        cases hz
        exact atI_last zs z
      refine ⟨_, rfl, ixL (SqL.of h26) hlast ?_⟩
      obtain ⟨cl, rfl, hcl⟩ := hzL
      have hS26 := hS25.same e26
      dsimp only [gName, List.set_cons_succ, List.set_cons_zero]
      have hsm : ∀ o ∈ lastL T.old P, ∀ v, o = some v → v < 1024 := fun o ho v hv => by
        subst hv
        have := (right_last hok.t.old hok.p).val v ho
        omega
      have oks : ∀ d ∈ (lastL T.old P).map itD, okF d := fun d hd => by
        obtain ⟨o, ho, rfl⟩ := List.mem_map.mp hd
        exact okF_it (hsm o ho)
      have okt := okA_tup oks (by rw [List.length_map]; omega)
      refine ifI ⟨_, rfl, _, rfl, a, p, _, rfl, hS26, fun vt hvt => ?_⟩
      rw [hfin] at hvt
      obtain ⟨ct, rfl, hct26⟩ := hvt
      rw [map_some] at hct26
      refine ⟨_, rfl, ⟨_, _, rfl, _, _, .tup hct26 (dpa_it _), .tup hcl (dpa_it _), okt, okt, (eqv_tup oks oks).mp, (eqv_tup oks oks).mpr, fun _ => ⟨true, rfl, tst_f rfl ?_⟩, fun h => absurd rfl h⟩⟩
      refine ⟨_, rfl, ixT (same_t E26 ht) rfl ⟨_, rfl, _, rfl, a, p, _, rfl, hS26, fun vt2 hvt2 => ?_⟩⟩
      rw [hfin] at hvt2
      obtain ⟨ct2, rfl, hct2⟩ := hvt2
      rw [map_some] at hct2
      have hwl := hok.t.len
      refine ⟨_, _, rfl, T.wish, lastL T.old P, hwish.mono E26, ⟨ct2, rfl, hct2⟩, by omega, by omega, fun H27 e27 => ⟨_, rfl, tst_f (by rw [hok.w]; rfl) ?_⟩⟩
      exact ⟨⟨_, _, _, _, _, _, _, _, rfl⟩, hb7.mono (E26.trans e27)⟩
  · rintro σ H3 ⟨⟨o2, o3, o4, o5, o6, o7, o8, o9, rfl⟩, _⟩
    dsimp only
    exact rtI (q _)
end Wm
set_option Elab.async false
set_option linter.all false
set_option maxRecDepth 100000
set_option maxHeartbeats 0
open PySem PySem.W PySem.Calls PyProof.Rows
theorem PySem.Challenge.cw_whilemoved_k12_whole_killed_at_each_mome_holds : PySem.Challenge.rw_whilemoved_k12_whole_killed_at_each_mome.Holds := by
  w_on; o_law
  refine HandSHeadRun.head_any (r := Wm.R) (q := view Wm.R.prog [69]) (H := Wm.hk) (ob := Wm.ob) (M := 4500) (loose := Wm.loose) (d := HandSHeadRun.topDef Wm.R.prog 69) (kwd := []) Wm.ob_eq
    (by kernel_rfl) (fun s => by kernel_rfl) Wm.run (by kernel_rfl) (by kernel_rfl) (by kernel_rfl) (by rfl) (by first | assumption | decide +kernel) (by decide +kernel) ⟨rfl, rfl, rfl, rfl, rfl, by decide +kernel⟩ ?hw ?hc
  case hw => w_witness2
  case hc =>
    refine Wm.walk_ofG (l := PySem.Challenge.rw_whilemoved_k12_whole_killed_at_each_mome) (n := 63) (k := 10) rfl (by decide) (by kernel_rfl) ⟨rfl, by decide, by decide⟩ ?F
    intro w mg fa h Y G hmg0
    obtain ⟨K, KX, c, ex⟩ := Y
    have hmg : mg ("law" : PySem.Str) = some (.ref fa) := by
      have e : (HandSHeadRun.topDef Wm.R.prog 69).name = ("law" : PySem.Str) := by kernel_rfl
      rw [← e]
      exact hmg0
    refine ⟨K, Wm.sp1 (Wm.pLaw K), KX, fun H a ns hl _ hS => ⟨_, rfl, a, ns, rfl, hS, fun _ => rfl⟩, fun base hK hN => ?_⟩
    obtain ⟨f, F, hm, _⟩ := (Wm.d_law (P := PySem.Challenge.rw_whilemoved_k12_whole_killed_at_each_mome.prog) (w := w) (Wm.Wd.mk hK hN c ex)).ex
    rw [hmg] at hm
    cases hm
    exact F
