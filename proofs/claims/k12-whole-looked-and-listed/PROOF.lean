import PyProof.Rows.All
import Wide.All
import OpenK.AllK
import Wide.FinOn
import KE.KStateDown
import Lean
import HandS.ForMost
import HandS.Defaults
import HandS.Head0
import HandS.Head1
import HandS.Head2
import HandS.HeadEnd
import HandS.HeadHook1
import HandS.HeadHook2
import HandS.Flow
import HandS.Deep
import HandS.TupAny
import HandS.Conv
import HandS.IsInst
import HandS.Steps
import HandS.Style
import HandS.TupMul
import HandS.Sort
import HandS.More
import PyProof.StrOps2
import PyProof.TupleOfSeq
import HandS.Zip
import PyProof.FitsReplace
import PySem.Challenge.RW_worldtale_k12_whole_looked_and_listed
set_option Elab.async false
set_option autoImplicit false
set_option linter.all false
set_option maxRecDepth 100000
set_option maxHeartbeats 0
namespace Wt
open PySem PySem.Spec PyProof.Rows L2
def topS (i : Nat) : Stmt := PySem.Challenge.pw_worldtale_k12_whole_looked_and_listed.main.body.getD i (.Pass ⟨0, 0, 0, 0⟩)
abbrev s_holder_chain : Stmt := topS 2
abbrev s_root_of : Stmt := topS 3
abbrev s_shut_boxes : Stmt := topS 4
abbrev s_is_hidden : Stmt := topS 5
abbrev s_doors_at : Stmt := topS 6
abbrev s_is_lit : Stmt := topS 7
abbrev s_seen_things : Stmt := topS 8
abbrev s_words_for : Stmt := topS 11
abbrev s_the_name : Stmt := topS 12
abbrev s_a_name : Stmt := topS 13
abbrev s_joined_by : Stmt := topS 14
abbrev s_joined_names : Stmt := topS 15
abbrev s_ways_line : Stmt := topS 16
abbrev s_held_line : Stmt := topS 17
abbrev s_look_lines : Stmt := topS 18
abbrev s_hold_lines : Stmt := topS 19
abbrev s_is_truth : Stmt := topS 26
abbrev s_S_init : Stmt := inClass (topS 27) 0
abbrev s_S_all_things : Stmt := inClass (topS 27) 2
abbrev s_S_has_trait : Stmt := inClass (topS 27) 3
abbrev s_S_is_dark : Stmt := inClass (topS 27) 4
abbrev s_S_doors_of : Stmt := inClass (topS 27) 5
abbrev s_S_need_thing : Stmt := inClass (topS 27) 6
abbrev s_S_here : Stmt := inClass (topS 27) 7
abbrev s_S_turn : Stmt := inClass (topS 27) 8
abbrev s_S_where : Stmt := inClass (topS 27) 9
abbrev s_S_is_open : Stmt := inClass (topS 27) 10
abbrev s_S_is_worn : Stmt := inClass (topS 27) 11
abbrev s_S_number_of : Stmt := inClass (topS 27) 12
abbrev s_S_holder_has : Stmt := inClass (topS 27) 13
abbrev s_S_is_where : Stmt := inClass (topS 27) 14
abbrev s_S_would_ring : Stmt := inClass (topS 27) 15
abbrev s_S_move_thing : Stmt := inClass (topS 27) 16
abbrev s_S_set_open : Stmt := inClass (topS 27) 17
abbrev s_S_set_worn : Stmt := inClass (topS 27) 18
abbrev s_S_set_number : Stmt := inClass (topS 27) 19
abbrev s_S_go_to : Stmt := inClass (topS 27) 20
abbrev s_S_next_turn : Stmt := inClass (topS 27) 21
abbrev s_S_told : Stmt := inClass (topS 27) 22
abbrev s_W_init : Stmt := inClass (topS 29) 0
abbrev s_W_told : Stmt := inClass (topS 29) 1
abbrev s_law_drawn : Stmt := topS 31
abbrev s_law_word : Stmt := topS 32
abbrev s_law_called : Stmt := topS 33
abbrev s_law_holders : Stmt := topS 34
abbrev s_law_add_thing : Stmt := topS 35
abbrev s_law_free : Stmt := topS 36
abbrev s_law_add_way : Stmt := topS 37
abbrev s_law_model : Stmt := topS 38
abbrev s_law_same : Stmt := topS 39
abbrev s_law_own : Stmt := topS 40
abbrev s_law_holds : Stmt := topS 41
abbrev s_law_told : Stmt := topS 42
abbrev s_law_moved : Stmt := topS 43
abbrev s_law_marked : Stmt := topS 44
abbrev s_law_doors : Stmt := topS 45
abbrev s_law_lit : Stmt := topS 46
abbrev s_law_seen : Stmt := topS 47
abbrev s_law_words : Stmt := topS 48
abbrev s_law_a : Stmt := topS 49
abbrev s_law_joined : Stmt := topS 50
abbrev s_law_ways_row : Stmt := topS 51
abbrev s_law_look : Stmt := topS 52
abbrev s_law_listed : Stmt := topS 53
abbrev s_law_right : Stmt := topS 54
abbrev s_law : Stmt := topS 55
def fns : List He.DefD := [
  ⟨("holder_chain", none), "holder_chain", "holder_chain", defArgs s_holder_chain, defBody s_holder_chain, defScope s_holder_chain, [], []⟩,
  ⟨("root_of", none), "root_of", "root_of", defArgs s_root_of, defBody s_root_of, defScope s_root_of, [], []⟩,
  ⟨("shut_boxes", none), "shut_boxes", "shut_boxes", defArgs s_shut_boxes, defBody s_shut_boxes, defScope s_shut_boxes, [], []⟩,
  ⟨("is_hidden", none), "is_hidden", "is_hidden", defArgs s_is_hidden, defBody s_is_hidden, defScope s_is_hidden, [], []⟩,
  ⟨("doors_at", none), "doors_at", "doors_at", defArgs s_doors_at, defBody s_doors_at, defScope s_doors_at, [], []⟩,
  ⟨("is_lit", none), "is_lit", "is_lit", defArgs s_is_lit, defBody s_is_lit, defScope s_is_lit, [], []⟩,
  ⟨("seen_things", none), "seen_things", "seen_things", defArgs s_seen_things, defBody s_seen_things, defScope s_seen_things, [], []⟩,
  ⟨("words_for", none), "words_for", "words_for", defArgs s_words_for, defBody s_words_for, defScope s_words_for, [], []⟩,
  ⟨("the_name", none), "the_name", "the_name", defArgs s_the_name, defBody s_the_name, defScope s_the_name, [], []⟩,
  ⟨("a_name", none), "a_name", "a_name", defArgs s_a_name, defBody s_a_name, defScope s_a_name, [], []⟩,
  ⟨("joined_by", none), "joined_by", "joined_by", defArgs s_joined_by, defBody s_joined_by, defScope s_joined_by, [], []⟩,
  ⟨("joined_names", none), "joined_names", "joined_names", defArgs s_joined_names, defBody s_joined_names, defScope s_joined_names, [], []⟩,
  ⟨("ways_line", none), "ways_line", "ways_line", defArgs s_ways_line, defBody s_ways_line, defScope s_ways_line, [], []⟩,
  ⟨("held_line", none), "held_line", "held_line", defArgs s_held_line, defBody s_held_line, defScope s_held_line, [], []⟩,
  ⟨("look_lines", none), "look_lines", "look_lines", defArgs s_look_lines, defBody s_look_lines, defScope s_look_lines, [], []⟩,
  ⟨("hold_lines", none), "hold_lines", "hold_lines", defArgs s_hold_lines, defBody s_hold_lines, defScope s_hold_lines, [], []⟩,
  ⟨("is_truth", none), "is_truth", "is_truth", defArgs s_is_truth, defBody s_is_truth, defScope s_is_truth, [], []⟩,
  ⟨("State", some "__init__"), "__init__", "State.__init__", defArgs s_S_init, defBody s_S_init, defScope s_S_init, [], []⟩,
  ⟨("State", some "all_things"), "all_things", "State.all_things", defArgs s_S_all_things, defBody s_S_all_things, defScope s_S_all_things, [], []⟩,
  ⟨("State", some "has_trait"), "has_trait", "State.has_trait", defArgs s_S_has_trait, defBody s_S_has_trait, defScope s_S_has_trait, [], []⟩,
  ⟨("State", some "is_dark"), "is_dark", "State.is_dark", defArgs s_S_is_dark, defBody s_S_is_dark, defScope s_S_is_dark, [], []⟩,
  ⟨("State", some "doors_of"), "doors_of", "State.doors_of", defArgs s_S_doors_of, defBody s_S_doors_of, defScope s_S_doors_of, [], []⟩,
  ⟨("State", some "need_thing"), "need_thing", "State.need_thing", defArgs s_S_need_thing, defBody s_S_need_thing, defScope s_S_need_thing, [], []⟩,
  ⟨("State", some "here"), "here", "State.here", defArgs s_S_here, defBody s_S_here, defScope s_S_here, [], []⟩,
  ⟨("State", some "turn"), "turn", "State.turn", defArgs s_S_turn, defBody s_S_turn, defScope s_S_turn, [], []⟩,
  ⟨("State", some "where"), "where", "State.where", defArgs s_S_where, defBody s_S_where, defScope s_S_where, [], []⟩,
  ⟨("State", some "is_open"), "is_open", "State.is_open", defArgs s_S_is_open, defBody s_S_is_open, defScope s_S_is_open, [], []⟩,
  ⟨("State", some "is_worn"), "is_worn", "State.is_worn", defArgs s_S_is_worn, defBody s_S_is_worn, defScope s_S_is_worn, [], []⟩,
  ⟨("State", some "number_of"), "number_of", "State.number_of", defArgs s_S_number_of, defBody s_S_number_of, defScope s_S_number_of, [], []⟩,
  ⟨("State", some "holder_has"), "holder_has", "State.holder_has", defArgs s_S_holder_has, defBody s_S_holder_has, defScope s_S_holder_has, [], []⟩,
  ⟨("State", some "is_where"), "is_where", "State.is_where", defArgs s_S_is_where, defBody s_S_is_where, defScope s_S_is_where, [], []⟩,
  ⟨("State", some "would_ring"), "would_ring", "State.would_ring", defArgs s_S_would_ring, defBody s_S_would_ring, defScope s_S_would_ring, [], []⟩,
  ⟨("State", some "move_thing"), "move_thing", "State.move_thing", defArgs s_S_move_thing, defBody s_S_move_thing, defScope s_S_move_thing, [], []⟩,
  ⟨("State", some "set_open"), "set_open", "State.set_open", defArgs s_S_set_open, defBody s_S_set_open, defScope s_S_set_open, [], []⟩,
  ⟨("State", some "set_worn"), "set_worn", "State.set_worn", defArgs s_S_set_worn, defBody s_S_set_worn, defScope s_S_set_worn, [], []⟩,
  ⟨("State", some "set_number"), "set_number", "State.set_number", defArgs s_S_set_number, defBody s_S_set_number, defScope s_S_set_number, [], []⟩,
  ⟨("State", some "go_to"), "go_to", "State.go_to", defArgs s_S_go_to, defBody s_S_go_to, defScope s_S_go_to, [], []⟩,
  ⟨("State", some "next_turn"), "next_turn", "State.next_turn", defArgs s_S_next_turn, defBody s_S_next_turn, defScope s_S_next_turn, [], []⟩,
  ⟨("State", some "told"), "told", "State.told", defArgs s_S_told, defBody s_S_told, defScope s_S_told, [], []⟩,
  ⟨("World", some "__init__"), "__init__", "World.__init__", defArgs s_W_init, defBody s_W_init, defScope s_W_init, [], []⟩,
  ⟨("World", some "told"), "told", "World.told", defArgs s_W_told, defBody s_W_told, defScope s_W_told, [], []⟩,
  ⟨("_law_drawn", none), "_law_drawn", "_law_drawn", defArgs s_law_drawn, defBody s_law_drawn, defScope s_law_drawn, [], []⟩,
  ⟨("_law_word", none), "_law_word", "_law_word", defArgs s_law_word, defBody s_law_word, defScope s_law_word, [], []⟩,
  ⟨("_law_called", none), "_law_called", "_law_called", defArgs s_law_called, defBody s_law_called, defScope s_law_called, [], []⟩,
  ⟨("_law_holders", none), "_law_holders", "_law_holders", defArgs s_law_holders, defBody s_law_holders, defScope s_law_holders, [], []⟩,
  ⟨("_law_add_thing", none), "_law_add_thing", "_law_add_thing", defArgs s_law_add_thing, defBody s_law_add_thing, defScope s_law_add_thing, [], []⟩,
  ⟨("_law_free", none), "_law_free", "_law_free", defArgs s_law_free, defBody s_law_free, defScope s_law_free, [], []⟩,
  ⟨("_law_add_way", none), "_law_add_way", "_law_add_way", defArgs s_law_add_way, defBody s_law_add_way, defScope s_law_add_way, [], []⟩,
  ⟨("_law_model", none), "_law_model", "_law_model", defArgs s_law_model, defBody s_law_model, defScope s_law_model, [], []⟩,
  ⟨("_law_same", none), "_law_same", "_law_same", defArgs s_law_same, defBody s_law_same, defScope s_law_same, [], []⟩,
  ⟨("_law_own", none), "_law_own", "_law_own", defArgs s_law_own, defBody s_law_own, defScope s_law_own, [], []⟩,
  ⟨("_law_holds", none), "_law_holds", "_law_holds", defArgs s_law_holds, defBody s_law_holds, defScope s_law_holds, [], []⟩,
  ⟨("_law_told", none), "_law_told", "_law_told", defArgs s_law_told, defBody s_law_told, defScope s_law_told, [], []⟩,
  ⟨("_law_moved", none), "_law_moved", "_law_moved", defArgs s_law_moved, defBody s_law_moved, defScope s_law_moved, [], []⟩,
  ⟨("_law_marked", none), "_law_marked", "_law_marked", defArgs s_law_marked, defBody s_law_marked, defScope s_law_marked, [], []⟩,
  ⟨("_law_doors", none), "_law_doors", "_law_doors", defArgs s_law_doors, defBody s_law_doors, defScope s_law_doors, [], []⟩,
  ⟨("_law_lit", none), "_law_lit", "_law_lit", defArgs s_law_lit, defBody s_law_lit, defScope s_law_lit, [], []⟩,
  ⟨("_law_seen", none), "_law_seen", "_law_seen", defArgs s_law_seen, defBody s_law_seen, defScope s_law_seen, [], []⟩,
  ⟨("_law_words", none), "_law_words", "_law_words", defArgs s_law_words, defBody s_law_words, defScope s_law_words, [], []⟩,
  ⟨("_law_a", none), "_law_a", "_law_a", defArgs s_law_a, defBody s_law_a, defScope s_law_a, [], []⟩,
  ⟨("_law_joined", none), "_law_joined", "_law_joined", defArgs s_law_joined, defBody s_law_joined, defScope s_law_joined, [], []⟩,
  ⟨("_law_ways_row", none), "_law_ways_row", "_law_ways_row", defArgs s_law_ways_row, defBody s_law_ways_row, defScope s_law_ways_row, [], []⟩,
  ⟨("_law_look", none), "_law_look", "_law_look", defArgs s_law_look, defBody s_law_look, defScope s_law_look, [], []⟩,
  ⟨("_law_listed", none), "_law_listed", "_law_listed", defArgs s_law_listed, defBody s_law_listed, defScope s_law_listed, [], []⟩,
  ⟨("_law_right", none), "_law_right", "_law_right", defArgs s_law_right, defBody s_law_right, defScope s_law_right, [], []⟩,
  ⟨("law", none), "law", "law", defArgs s_law, defBody s_law, defScope s_law, [], []⟩]
def fas : List He.Fa := [
  .glo "holder_chain",
  .glo "root_of",
  .glo "shut_boxes",
  .glo "is_hidden",
  .glo "doors_at",
  .glo "is_lit",
  .glo "seen_things",
  .glo "words_for",
  .glo "the_name",
  .glo "a_name",
  .glo "joined_by",
  .glo "joined_names",
  .glo "ways_line",
  .glo "held_line",
  .glo "look_lines",
  .glo "hold_lines",
  .glo "is_truth",
  .glo "_law_drawn",
  .glo "_law_word",
  .glo "_law_called",
  .glo "_law_holders",
  .glo "_law_add_thing",
  .glo "_law_free",
  .glo "_law_add_way",
  .glo "_law_model",
  .glo "_law_same",
  .glo "_law_own",
  .glo "_law_holds",
  .glo "_law_told",
  .glo "_law_moved",
  .glo "_law_marked",
  .glo "_law_doors",
  .glo "_law_lit",
  .glo "_law_seen",
  .glo "_law_words",
  .glo "_law_a",
  .glo "_law_joined",
  .glo "_law_ways_row",
  .glo "_law_look",
  .glo "_law_listed",
  .glo "_law_right",
  .glo "law",
  .free "all",
  .free "any",
  .free "bool",
  .free "dict",
  .free "enumerate",
  .free "int",
  .free "isinstance",
  .free "len",
  .free "list",
  .free "range",
  .free "sorted",
  .free "str",
  .free "sum",
  .free "tuple",
  .free "zip",
  .str "VOWELS" "aeiou",
  .int "MOST_NUMBER" 9,
  .glo "State",
  .cls "State",
  .mkr "State",
  .noat "State" "tale",
  .noat "State" "rows",
  .noat "State" "rooms",
  .noat "State" "ways",
  .noat "State" "spot",
  .noat "State" "moment",
  .noat "State" "wheres",
  .noat "State" "lids",
  .noat "State" "dressed",
  .noat "State" "counts",
  .meth "State" "all_things",
  .meth "State" "has_trait",
  .meth "State" "is_dark",
  .meth "State" "doors_of",
  .meth "State" "need_thing",
  .meth "State" "here",
  .meth "State" "turn",
  .meth "State" "where",
  .meth "State" "is_open",
  .meth "State" "is_worn",
  .meth "State" "number_of",
  .meth "State" "holder_has",
  .meth "State" "is_where",
  .meth "State" "would_ring",
  .meth "State" "move_thing",
  .meth "State" "set_open",
  .meth "State" "set_worn",
  .meth "State" "set_number",
  .meth "State" "go_to",
  .meth "State" "next_turn",
  .meth "State" "told",
  .glo "World",
  .cls "World",
  .mkr "World",
  .noat "World" "told_places",
  .noat "World" "told_things",
  .noat "World" "told_ways",
  .noat "World" "told_states",
  .noat "World" "told_rules",
  .noat "World" "told_everies",
  .noat "World" "told_scenes",
  .noat "World" "told_ends",
  .meth "World" "told"]
def loose0 : List Str := ["_wall", "__name__", "holder_chain", "root_of", "shut_boxes", "is_hidden", "doors_at", "is_lit", "seen_things", "VOWELS", "words_for", "the_name", "a_name", "joined_by", "joined_names", "ways_line", "held_line", "look_lines", "hold_lines", "TaleError", "BadState", "OutOfPlace", "MOST_NUMBER", "is_truth", "State", "World", "_law_drawn", "_law_word", "_law_called", "_law_holders"]
def loose1 : List Str := ["_law_add_thing", "_law_free", "_law_add_way", "_law_model", "_law_same", "_law_own", "_law_holds", "_law_told", "_law_moved", "_law_marked", "_law_doors", "_law_lit", "_law_seen", "_law_words", "_law_a", "_law_joined", "_law_ways_row", "_law_look", "_law_listed", "_law_right"]
abbrev looseA : List Str := loose0 ++ loose1
def LAWIX : Nat := 55
abbrev R : PySem.W.OpenRow := PySem.W.OpenLaw.row PySem.Challenge.rw_worldtale_k12_whole_looked_and_listed
abbrev hk : PySem.W.Hook := He.hookD 6 fas fns
def ob (s : PySem.W.SharedT) : He.AlD := He.obsDG 6 fas fns (HandSHeadRun.getT s)
theorem ob_eq (s : PySem.W.SharedT) : ob s = hk.obs s.abs := He.obsDG_eq (HandSHeadRun.getT_eq s)
theorem run (w : World) : HandSHeadRun.RunEq R (PySem.W.view R.prog [55]) hk ob 6000 looseA w := by
  intro os
  kernel_rfl
end Wt

set_option maxHeartbeats 4000000
/-! WtA: plain data, held by values over the abstract heap. -/
namespace Wt
open PySem PySem.Spec PyProof.Rows L2

/-- plain data -/
inductive D where
  | non | bl (b : Bool) | int (i : Int) | str (x : Str) | ty (n : String)
  | lst (xs : List D) | tup (xs : List D) | dic (kvs : List (Str × D)) | obj (C : Addr) (fs : List (Str × D))

abbrev Mask := Addr → Prop
/-- O and p -/
def Mask.and (O : Mask) (p : Addr) : Mask := fun b => O b ∨ b = p

mutual
/-- v is d in H, without the addresses of O -/
inductive Dm (O : Mask) (H : Hp) : V → D → Prop where
  | non : Dm O H .non .non
  | bl (b : Bool) : Dm O H (.bl b) (.bl b)
  | int (i : Int) : Dm O H (.int i) (.int i)
  | str (x : Str) : Dm O H (.str x) (.str x)
  | ty (n : String) : Dm O H (.ty n) (.ty n)
  | lst {a : Addr} {xs : List V} {ds : List D} (n : ¬ O a) (h : H a = some (.lst xs)) (r : DmL O H xs ds) : Dm O H (.ref a) (.lst ds)
  | tup {a : Addr} {xs : List V} {ds : List D} (n : ¬ O a) (h : H a = some (.tup xs)) (r : DmL O H xs ds) : Dm O H (.ref a) (.tup ds)
  | dic {a : Addr} {kvs : List (Key × V)} {fs : List (Str × D)} (n : ¬ O a) (h : Rd H a (.dK kvs)) (r : DmK O H kvs fs) : Dm O H (.ref a) (.dic fs)
  | obj {a C dx : Addr} {vs : List (Str × V)} {fs : List (Str × D)} (n : ¬ O a) (h : H a = some (.ins C dx vs)) (r : DmF O H vs fs) : Dm O H (.ref a) (.obj C fs)
inductive DmL (O : Mask) (H : Hp) : List V → List D → Prop where
  | nil : DmL O H [] []
  | cons {v : V} {d : D} {vs : List V} {ds : List D} (h : Dm O H v d) (r : DmL O H vs ds) : DmL O H (v :: vs) (d :: ds)
inductive DmK (O : Mask) (H : Hp) : List (Key × V) → List (Str × D) → Prop where
  | nil : DmK O H [] []
  | cons {s : Str} {v : V} {d : D} {vs : List (Key × V)} {ds : List (Str × D)} (h : Dm O H v d) (r : DmK O H vs ds) : DmK O H ((.inr s, v) :: vs) ((s, d) :: ds)
inductive DmF (O : Mask) (H : Hp) : List (Str × V) → List (Str × D) → Prop where
  | nil : DmF O H [] []
  | cons {s : Str} {v : V} {d : D} {vs : List (Str × V)} {ds : List (Str × D)} (h : Dm O H v d) (r : DmF O H vs ds) : DmF O H ((s, v) :: vs) ((s, d) :: ds)
end

/-- what data leans on is kept, outside O -/
structure Kp (O : Mask) (H H' : Hp) : Prop where
  lst : ∀ b xs, ¬ O b → H b = some (.lst xs) → H' b = some (.lst xs)
  tup : ∀ b xs, ¬ O b → H b = some (.tup xs) → H' b = some (.tup xs)
  dic : ∀ b kvs, ¬ O b → Rd H b (.dK kvs) → Rd H' b (.dK kvs)
  obj : ∀ b C dx vs, ¬ O b → H b = some (.ins C dx vs) → H' b = some (.ins C dx vs)
theorem Kp.of {O : Mask} {H H' : Hp} (h : ∀ b o, ¬ O b → H b = some o → H' b = some o) : Kp O H H' :=
  ⟨fun b _ n e => h b _ n e, fun b _ n e => h b _ n e, fun b _ n e => e.elim (fun z => .inl (h b _ n z)) fun ⟨o, z⟩ => .inr ⟨o, h b _ n z⟩, fun b _ _ _ n e => h b _ n e⟩
theorem Kp.same {O : Mask} {H H' : Hp} (h : Same H H') : Kp O H H' := .of fun b o _ e => h b o e

section
variable {O O' : Mask} {H H' : Hp}
mutual
theorem Dm.kp (k : Kp O H H') (ho : ∀ b, O' b → O b ∨ H b = none) : ∀ {v : V} {d : D}, Dm O H v d → Dm O' H' v d
  | _, _, .non => .non
  | _, _, .bl b => .bl b
  | _, _, .int i => .int i
  | _, _, .str x => .str x
  | _, _, .ty x => .ty x
  | _, _, .lst n h r => .lst (fun z => (ho _ z).elim n fun q => by rw [q] at h; cases h) (k.lst _ _ n h) (DmL.kp k ho r)
  | _, _, .tup n h r => .tup (fun z => (ho _ z).elim n fun q => by rw [q] at h; cases h) (k.tup _ _ n h) (DmL.kp k ho r)
  | _, _, .dic n h r => .dic (fun z => (ho _ z).elim n fun q => by rcases h with h | ⟨_, h⟩ <;> (rw [q] at h; cases h)) (k.dic _ _ n h) (DmK.kp k ho r)
  | _, _, .obj n h r => .obj (fun z => (ho _ z).elim n fun q => by rw [q] at h; cases h) (k.obj _ _ _ _ n h) (DmF.kp k ho r)
theorem DmL.kp (k : Kp O H H') (ho : ∀ b, O' b → O b ∨ H b = none) : ∀ {vs : List V} {ds : List D}, DmL O H vs ds → DmL O' H' vs ds
  | _, _, .nil => .nil
  | _, _, .cons h r => .cons (Dm.kp k ho h) (DmL.kp k ho r)
theorem DmK.kp (k : Kp O H H') (ho : ∀ b, O' b → O b ∨ H b = none) : ∀ {vs : List (Key × V)} {ds : List (Str × D)}, DmK O H vs ds → DmK O' H' vs ds
  | _, _, .nil => .nil
  | _, _, .cons h r => .cons (Dm.kp k ho h) (DmK.kp k ho r)
theorem DmF.kp (k : Kp O H H') (ho : ∀ b, O' b → O b ∨ H b = none) : ∀ {vs : List (Str × V)} {ds : List (Str × D)}, DmF O H vs ds → DmF O' H' vs ds
  | _, _, .nil => .nil
  | _, _, .cons h r => .cons (Dm.kp k ho h) (DmF.kp k ho r)
end
end
section
variable {O : Mask} {H H' : Hp} {v : V} {d : D} {vs : List V} {ds : List D} {p : Addr} {vsK : List (Key × V)} {dsK : List (Str × D)}
theorem Dm.same (h : Dm O H v d) (s : Same H H') : Dm O H' v d := Dm.kp (.same s) (fun _ z => .inl z) h
theorem DmL.same (h : DmL O H vs ds) (s : Same H H') : DmL O H' vs ds := DmL.kp (.same s) (fun _ z => .inl z) h
theorem DmK.same {vs : List (Key × V)} {ds : List (Str × D)} (h : DmK O H vs ds) (s : Same H H') : DmK O H' vs ds := DmK.kp (.same s) (fun _ z => .inl z) h
theorem DmF.same {vs : List (Str × V)} {ds : List (Str × D)} (h : DmF O H vs ds) (s : Same H H') : DmF O H' vs ds := DmF.kp (.same s) (fun _ z => .inl z) h
/-- fewer addresses to leave out -/
theorem Dm.sub {O' : Mask} (h : Dm O H v d) (s : ∀ b, O' b → O b) : Dm O' H v d := Dm.kp (.same (Same.refl H)) (fun b z => .inl (s b z)) h
theorem DmL.sub {O' : Mask} (h : DmL O H vs ds) (s : ∀ b, O' b → O b) : DmL O' H vs ds := DmL.kp (.same (Same.refl H)) (fun b z => .inl (s b z)) h
theorem DmK.sub {O' : Mask} {vs : List (Key × V)} {ds : List (Str × D)} (h : DmK O H vs ds) (s : ∀ b, O' b → O b) : DmK O' H vs ds := DmK.kp (.same (Same.refl H)) (fun b z => .inl (s b z)) h
/-- a new address is left out -/
theorem Dm.fresh (h : Dm O H v d) (n : H p = none) : Dm (O.and p) H v d := Dm.kp (.same (Same.refl H)) (fun b z => z.elim .inl fun q => .inr (by rw [q]; exact n)) h
theorem DmL.fresh (h : DmL O H vs ds) (n : H p = none) : DmL (O.and p) H vs ds := DmL.kp (.same (Same.refl H)) (fun b z => z.elim .inl fun q => .inr (by rw [q]; exact n)) h
theorem DmK.fresh {vs : List (Key × V)} {ds : List (Str × D)} (h : DmK O H vs ds) (n : H p = none) : DmK (O.and p) H vs ds := DmK.kp (.same (Same.refl H)) (fun b z => z.elim .inl fun q => .inr (by rw [q]; exact n)) h
/-- what is left out may change -/
theorem Dm.updO {o : HO} (h : Dm O H v d) (n : O p) : Dm O (upd H p o) v d := Dm.kp (.of fun b u q e => by rw [upd_ne (fun z => q (by rw [z]; exact n))]; exact e) (fun _ z => .inl z) h
theorem DmL.updO {o : HO} (h : DmL O H vs ds) (n : O p) : DmL O (upd H p o) vs ds := DmL.kp (.of fun b u q e => by rw [upd_ne (fun z => q (by rw [z]; exact n))]; exact e) (fun _ z => .inl z) h
theorem DmK.updO {o : HO} {vs : List (Key × V)} {ds : List (Str × D)} (h : DmK O H vs ds) (n : O p) : DmK O (upd H p o) vs ds := DmK.kp (.of fun b u q e => by rw [upd_ne (fun z => q (by rw [z]; exact n))]; exact e) (fun _ z => .inl z) h
theorem DmF.updO {o : HO} {vs : List (Str × V)} {ds : List (Str × D)} (h : DmF O H vs ds) (n : O p) : DmF O (upd H p o) vs ds := DmF.kp (.of fun b u q e => by rw [upd_ne (fun z => q (by rw [z]; exact n))]; exact e) (fun _ z => .inl z) h
theorem Same.new {o : HO} (n : H p = none) : Same H (upd H p o) := fun b u e => by rw [upd_ne (ne_of_none e n)]; exact e
theorem Dm.new {o : HO} (h : Dm O H v d) (n : H p = none) : Dm O (upd H p o) v d := h.same (Same.new n)
theorem DmL.new {o : HO} (h : DmL O H vs ds) (n : H p = none) : DmL O (upd H p o) vs ds := h.same (Same.new n)

theorem DmL.length : ∀ {vs : List V} {ds : List D}, DmL O H vs ds → vs.length = ds.length
  | _, _, .nil => rfl
  | _, _, .cons _ r => congrArg (· + 1) r.length
theorem DmL.get : ∀ {vs : List V} {ds : List D}, DmL O H vs ds → ∀ {i : Nat} {d : D}, ds[i]? = some d → ∃ v, vs[i]? = some v ∧ Dm O H v d
  | _, _, .nil, i, d, e => by simp at e
  | _, _, .cons (v := v) h r, 0, d, e => ⟨v, rfl, by have : _ = d := Option.some.inj e; rw [← this]; exact h⟩
  | _, _, .cons h r, i + 1, d, e => r.get (i := i) e
theorem DmL.getV : ∀ {vs : List V} {ds : List D}, DmL O H vs ds → ∀ {i : Nat} {v : V}, vs[i]? = some v → ∃ d, ds[i]? = some d ∧ Dm O H v d
  | _, _, .nil, i, d, e => by simp at e
  | _, _, .cons (d := d) h r, 0, v, e => ⟨d, rfl, by have : _ = v := Option.some.inj e; rw [← this]; exact h⟩
  | _, _, .cons h r, i + 1, d, e => r.getV (i := i) e
theorem DmL.append : ∀ {vs ws : List V} {ds es : List D}, DmL O H vs ds → DmL O H ws es → DmL O H (vs ++ ws) (ds ++ es)
  | _, _, _, _, .nil, s => s
  | _, _, _, _, .cons h r, s => .cons h (r.append s)
theorem DmL.snoc (h : DmL O H vs ds) (r : Dm O H v d) : DmL O H (vs ++ [v]) (ds ++ [d]) := h.append (.cons r .nil)
theorem DmL.at {i : Int} (h : DmL O H vs ds) (e : atI ds i = some d) : ∃ v, atI vs i = some v ∧ Dm O H v d := by
  unfold atI at e ⊢
  rw [h.length]
  cases q : ixN ds.length i with
  | none => rw [q] at e; cases e
  | some j =>
    rw [q] at e
    exact h.get e
theorem DmL.strs : ∀ {xs : List Str} {vs : List V}, DmL O H vs (xs.map D.str) → vs = xs.map V.str
  | [], _, h => by cases h; rfl
  | x :: r, _, h => by
    cases h with
    | cons h q => cases h; exact congrArg _ q.strs
theorem DmL.ofStrs : ∀ (xs : List Str), DmL O H (xs.map V.str) (xs.map D.str)
  | [] => .nil
  | x :: r => .cons (.str x) (DmL.ofStrs r)
theorem DmL.bls : ∀ {xs : List Bool} {vs : List V}, DmL O H vs (xs.map D.bl) → vs = xs.map V.bl
  | [], _, h => by cases h; rfl
  | x :: r, _, h => by
    cases h with
    | cons h q => cases h; exact congrArg _ q.bls
theorem DmL.ofBls : ∀ (xs : List Bool), DmL O H (xs.map V.bl) (xs.map D.bl)
  | [] => .nil
  | x :: r => .cons (.bl x) (DmL.ofBls r)
theorem DmL.ints : ∀ {xs : List Int} {vs : List V}, DmL O H vs (xs.map D.int) → vs = xs.map V.int
  | [], _, h => by cases h; rfl
  | x :: r, _, h => by
    cases h with
    | cons h q => cases h; exact congrArg _ q.ints
/-! ### dicts -/
def valD (kvs : List (Str × D)) (k : Str) : Option D := (kvs.find? fun kv => decide (kv.1 = k)).map (·.2)
def putD (kvs : List (Str × D)) (k : Str) (v : D) : List (Str × D) := if (kvs.any fun kv => decide (kv.1 = k)) = true then kvs.map (fun kv => if kv.1 = k then (kv.1, v) else kv) else kvs ++ [(k, v)]
theorem DmK.val : ∀ {vs : List (Key × V)} {ds : List (Str × D)}, DmK O H vs ds → ∀ {k : Str} {d : D}, valD ds k = some d → ∃ v, valV vs (Sum.inr k : Key) = some v ∧ Dm O H v d
  | _, _, .nil, k, d, e => by cases e
  | _, _, .cons (s := s) (v := v) (d := d') h r, k, d, e => by
    by_cases q : s = k
    · subst q
      have e2 : d' = d := by simpa [valD] using e
      exact ⟨v, valV_pos rfl, by rw [← e2]; exact h⟩
    · obtain ⟨v', h1, h2⟩ := r.val (k := k) (d := d) (by simpa [valD, q] using e)
      exact ⟨v', by rw [valV_neg (by simpa using q)]; exact h1, h2⟩
theorem DmK.val_none : ∀ {vs : List (Key × V)} {ds : List (Str × D)}, DmK O H vs ds → ∀ {k : Str}, valD ds k = none → valV vs (Sum.inr k : Key) = none
  | _, _, .nil, k, e => rfl
  | _, _, .cons (s := s) h r, k, e => by
    by_cases q : s = k
    · subst q
      simp [valD] at e
    · rw [valV_neg (by simpa using q)]
      exact r.val_none (by simpa [valD, q] using e)
theorem DmK.isSome (h : DmK O H vsK dsK) (k : Str) : (valV vsK (Sum.inr k : Key)).isSome = (valD dsK k).isSome := by
  cases e : valD dsK k with
  | none => rw [h.val_none e]; rfl
  | some d =>
    obtain ⟨v, h1, _⟩ := h.val e
    rw [h1]; rfl
theorem DmK.length : ∀ {vs : List (Key × V)} {ds : List (Str × D)}, DmK O H vs ds → vs.length = ds.length
  | _, _, .nil => rfl
  | _, _, .cons _ r => congrArg (· + 1) r.length
theorem DmK.anyK : ∀ {vs : List (Key × V)} {ds : List (Str × D)}, DmK O H vs ds → ∀ (k : Str), (vs.any fun kv => decide (kv.1 = (Sum.inr k : Key))) = ds.any fun kv => decide (kv.1 = k)
  | _, _, .nil, k => rfl
  | _, _, .cons (s := s) h r, k => by
    rw [List.any_cons, List.any_cons, r.anyK k]
    congr 1
    exact decide_eq_decide.mpr ⟨fun z => Sum.inr.inj z, fun z => congrArg _ z⟩
theorem DmK.append : ∀ {vs ws : List (Key × V)} {ds es : List (Str × D)}, DmK O H vs ds → DmK O H ws es → DmK O H (vs ++ ws) (ds ++ es)
  | _, _, _, _, .nil, s => s
  | _, _, _, _, .cons h r, s => .cons h (r.append s)
theorem DmK.repl : ∀ {vs : List (Key × V)} {ds : List (Str × D)}, DmK O H vs ds → ∀ (k : Str) {v : V} {d : D}, Dm O H v d →
    DmK O H (vs.map fun kv => if kv.1 = (Sum.inr k : Key) then (kv.1, v) else kv) (ds.map fun kv => if kv.1 = k then (kv.1, d) else kv)
  | _, _, .nil, _, _, _, _ => .nil
  | _, _, .cons (s := s) h r, k, v, d, q => by
    rw [List.map_cons, List.map_cons]
    by_cases e : s = k
    · subst e
      simp only [if_true]
      exact .cons q (r.repl _ q)
    · have e' : ¬ (Sum.inr s : Key) = Sum.inr k := fun z => e (Sum.inr.inj z)
      simp only [if_neg e, if_neg e']
      exact .cons h (r.repl _ q)
theorem DmK.put (h : DmK O H vsK dsK) (k : Str) (q : Dm O H v d) : DmK O H (putK vsK (Sum.inr k) v) (putD dsK k d) := by
  unfold putK putD
  rw [h.anyK k]
  split
  · exact h.repl k q
  · exact h.append (.cons q .nil)
theorem DmF.look : ∀ {vs : List (Str × V)} {ds : List (Str × D)}, DmF O H vs ds → ∀ {k : Str} {d : D}, ds.lookup k = some d → ∃ v, vs.lookup k = some v ∧ Dm O H v d
  | _, _, .nil, k, d, e => by cases e
  | _, _, .cons (s := s) (v := v) (d := d') h r, k, d, e => by
    rw [List.lookup_cons] at e ⊢
    cases q : k == s with
    | true =>
      rw [q] at e
      exact ⟨v, rfl, by have : d' = d := Option.some.inj e; rw [← this]; exact h⟩
    | false =>
      rw [q] at e
      exact r.look e
theorem DmF.look_none : ∀ {vs : List (Str × V)} {ds : List (Str × D)}, DmF O H vs ds → ∀ {k : Str}, ds.lookup k = none → vs.lookup k = none
  | _, _, .nil, k, e => rfl
  | _, _, .cons (s := s) h r, k, e => by
    rw [List.lookup_cons] at e ⊢
    cases q : k == s with
    | true => rw [q] at e; cases e
    | false =>
      rw [q] at e
      exact r.look_none e
end

/-! ### to the library's own data -/
mutual
def D.py : D → PyData
  | .non => .none
  | .bl b => .bool b
  | .int i => .int i
  | .str x => .str x
  | .ty _ => .none
  | .lst xs => .list (D.pyL xs)
  | .tup xs => .tuple (D.pyL xs)
  | .dic _ => .none
  | .obj _ _ => .none
def D.pyL : List D → List PyData
  | [] => []
  | d :: ds => d.py :: D.pyL ds
end
mutual
/-- no dict, no object in it -/
def D.pl : D → Bool
  | .lst xs => D.plL xs
  | .tup xs => D.plL xs
  | .ty _ => false
  | .dic _ => false
  | .obj _ _ => false
  | _ => true
def D.plL : List D → Bool
  | [] => true
  | d :: ds => d.pl && D.plL ds
end
section
variable {O : Mask} {H : Hp} {K : PySem.W.Frag}
mutual
theorem Dm.dp : ∀ {v : V} {d : D}, Dm O H v d → d.pl = true → Dp K H v d.py
  | _, _, .non, _ => .non
  | _, _, .bl b, _ => .bl b
  | _, _, .int i, _ => .int i
  | _, _, .str x, _ => .str x
  | _, _, .ty x, e => by cases e
  | _, _, .lst n h r, e => by
    unfold D.pl at e
    unfold D.py
    exact .lst (SqL.of h) (DmL.dp r e)
  | _, _, .tup n h r, e => by
    unfold D.pl at e
    unfold D.py
    exact .tup (SqT.of h) (DmL.dp r e)
  | _, _, .dic n h r, e => by cases e
  | _, _, .obj n h r, e => by cases e
theorem DmL.dp : ∀ {vs : List V} {ds : List D}, DmL O H vs ds → D.plL ds = true → DpAll K H vs (D.pyL ds)
  | _, _, .nil, _ => by
    unfold D.pyL
    exact .nil
  | _, _, .cons h r, e => by
    unfold D.plL at e
    unfold D.pyL
    obtain ⟨e1, e2⟩ := Bool.and_eq_true_iff.mp e
    exact .cons (Dm.dp h e1) (DmL.dp r e2)
end
end
end Wt

/-! WtB: readings without heaps. -/
namespace Wt
open PySem PySem.Spec PyProof.Rows L2

abbrev Env := List (Option D)
structure Rz (O : Mask) (ρ : Env) (σ : L2.St) (H : Hp) : Prop where
  len : σ.length = ρ.length
  at_ : ∀ (i : Nat) (d : D), ρ[i]? = some (some d) → ∃ v, σ[i]? = some (some v) ∧ Dm O H v d
def Dom (O : Mask) (H : Hp) : Prop := ∀ b, O b → H b ≠ none

section
variable {O : Mask} {H H' : Hp} {ρ : Env} {σ : L2.St} {p : Addr}
theorem Dom.same (h : Dom O H) (s : Same H H') : Dom O H' := fun b z e => by
  cases q : H b with
  | none => exact h b z q
  | some o =>
    rw [s b o q] at e
    cases e
theorem Dom.not (h : Dom O H) (n : H p = none) : ¬ O p := fun z => h p z n
theorem Dom.and (h : Dom O H) {o : HO} (e : H p = some o) : Dom (O.and p) H := fun b z => z.elim (h b) fun q => by rw [q, e]; exact fun z => nomatch z
theorem Rz.same (h : Rz O ρ σ H) (s : Same H H') : Rz O ρ σ H' := ⟨h.len, fun i d e => let ⟨v, h1, h2⟩ := h.at_ i d e; ⟨v, h1, h2.same s⟩⟩
theorem Rz.sub {O' : Mask} (h : Rz O ρ σ H) (s : ∀ b, O' b → O b) : Rz O' ρ σ H := ⟨h.len, fun i d e => let ⟨v, h1, h2⟩ := h.at_ i d e; ⟨v, h1, h2.sub s⟩⟩
theorem Rz.fresh (h : Rz O ρ σ H) (n : H p = none) : Rz (O.and p) ρ σ H := ⟨h.len, fun i d e => let ⟨v, h1, h2⟩ := h.at_ i d e; ⟨v, h1, h2.fresh n⟩⟩
theorem Rz.updO {o : HO} (h : Rz O ρ σ H) (n : O p) : Rz O ρ σ (upd H p o) := ⟨h.len, fun i d e => let ⟨v, h1, h2⟩ := h.at_ i d e; ⟨v, h1, h2.updO n⟩⟩
theorem Rz.kp {O' : Mask} (h : Rz O ρ σ H) (k : Kp O H H') (ho : ∀ b, O' b → O b ∨ H b = none) : Rz O' ρ σ H' := ⟨h.len, fun i d e => let ⟨v, h1, h2⟩ := h.at_ i d e; ⟨v, h1, Dm.kp k ho h2⟩⟩
theorem Rz.set {i : Nat} {v : V} {d : D} (h : Rz O ρ σ H) (r : Dm O H v d) : Rz O (ρ.set i (some d)) (σ.set i (some v)) H := by
  refine ⟨by rw [List.length_set, List.length_set, h.len], fun j e q => ?_⟩
  by_cases hj : i = j
  · subst hj
    by_cases hi : i < ρ.length
    · rw [List.getElem?_set_self hi] at q
      cases q
      exact ⟨v, List.getElem?_set_self (by rw [h.len]; exact hi), r⟩
    · rw [List.getElem?_eq_none (by rw [List.length_set]; omega)] at q
      cases q
  · rw [List.getElem?_set_ne hj] at q ⊢
    exact h.at_ j e q
theorem Rz.setN {i : Nat} {v : Option V} (h : Rz O ρ σ H) : Rz O (ρ.set i none) (σ.set i v) H := by
  refine ⟨by rw [List.length_set, List.length_set, h.len], fun j e q => ?_⟩
  by_cases hj : i = j
  · subst hj
    by_cases hi : i < ρ.length
    · rw [List.getElem?_set_self hi] at q
      cases q
    · rw [List.getElem?_eq_none (by rw [List.length_set]; omega)] at q
      cases q
  · rw [List.getElem?_set_ne hj] at q ⊢
    exact h.at_ j e q
/-- a weaker environment -/
inductive Wk : Env → Env → Prop where
  | nil : Wk [] []
  | keep {o : Option D} {r s : Env} (h : Wk r s) : Wk (o :: r) (o :: s)
  | drop {o : Option D} {r s : Env} (h : Wk r s) : Wk (none :: r) (o :: s)
theorem Wk.len : ∀ {r s : Env}, Wk r s → r.length = s.length
  | _, _, .nil => rfl
  | _, _, .keep h => congrArg (· + 1) h.len
  | _, _, .drop h => congrArg (· + 1) h.len
theorem Wk.at_ : ∀ {r s : Env}, Wk r s → ∀ (i : Nat) (d : D), r[i]? = some (some d) → s[i]? = some (some d)
  | _, _, .nil, i, d, e => by simp at e
  | _, _, .keep h, 0, d, e => e
  | _, _, .keep h, i + 1, d, e => h.at_ i d e
  | _, _, .drop h, 0, d, e => by cases e
  | _, _, .drop h, i + 1, d, e => h.at_ i d e
theorem Wk.refl : ∀ r : Env, Wk r r
  | [] => .nil
  | _ :: r => .keep (Wk.refl r)
theorem Rz.weak {r : Env} (h : Rz O ρ σ H) (w : Wk r ρ) : Rz O r σ H := ⟨h.len.trans w.len.symm, fun i d e => h.at_ i d (w.at_ i d e)⟩
theorem Rz.begin_ {N : List Str} {vs : List V} {ds : List D} (h : DmL O H vs ds) (hn : ds.length ≤ N.length) : Rz O (ds.map some ++ List.replicate (N.length - ds.length) none) (L2.start N vs) H := by
  unfold L2.start
  refine ⟨by simp [h.length], fun i d e => ?_⟩
  have hl := h.length
  by_cases hi : i < ds.length
  · rw [List.getElem?_append_left (by simpa using hi), List.getElem?_map] at e
    rw [List.getElem?_append_left (by simp; omega), List.getElem?_map]
    cases q : ds[i]? with
    | none => rw [q] at e; cases e
    | some d' =>
      rw [q] at e
      have e2 : d' = d := Option.some.inj (Option.some.inj e)
      subst e2
      obtain ⟨v, h1, h2⟩ := h.get q
      exact ⟨v, by rw [h1]; rfl, h2⟩
  · rw [List.getElem?_append_right (by simpa using hi)] at e
    rw [List.getElem?_replicate] at e
    split at e <;> cases e
end

/-! ### judgements -/
def EvD (te : TE) (ρ : Env) (d : D) : Prop := ∀ O σ H, Dom O H → Rz O ρ σ H → ∀ Q : VK, (∀ v H2, Same H H2 → Dm O H2 v d → Q v H2) → te σ H Q
/-- a new list -/
def EvN (te : TE) (ρ : Env) (ds : List D) : Prop := ∀ O σ H, Dom O H → Rz O ρ σ H → ∀ Q : VK, (∀ p xs H2, H p = none → Same H H2 → H2 p = some (.lst xs) → DmL (O.and p) H2 xs ds → Q (.ref p) H2) → te σ H Q
/-- a new dict -/
def EvM (te : TE) (ρ : Env) (ds : List (Str × D)) : Prop := ∀ O σ H, Dom O H → Rz O ρ σ H → ∀ Q : VK, (∀ p xs H2, H p = none → Same H H2 → H2 p = some (.dK xs) → DmK (O.and p) H2 xs ds → Q (.ref p) H2) → te σ H Q
def EvT (tt : TT) (ρ : Env) (b : Bool) : Prop := ∀ O σ H, Dom O H → Rz O ρ σ H → ∀ Q : Bool → Hp → Prop, (∀ H2, Same H H2 → Q b H2) → tt σ H Q
def EvA (ta : TA) (ρ : Env) (ds : List D) : Prop := ∀ O σ H, Dom O H → Rz O ρ σ H → ∀ Q : List V → Hp → Prop, (∀ vs H2, Same H H2 → DmL O H2 vs ds → Q vs H2) → ta σ H Q
def RD (r : R2) (x y z : D) : Prop := ∀ O H vx vy, Dom O H → Dm O H vx x → Dm O H vy y → ∀ Q : VK, (∀ v H2, Same H H2 → Dm O H2 v z → Q v H2) → r vx vy H Q
def RN (r : R2) (x y : D) (ds : List D) : Prop := ∀ O H vx vy, Dom O H → Dm O H vx x → Dm O H vy y → ∀ Q : VK, (∀ p xs H2, H p = none → Same H H2 → H2 p = some (.lst xs) → DmL (O.and p) H2 xs ds → Q (.ref p) H2) → r vx vy H Q
def CD (r : List V → Hp → VK → Prop) (xs : List D) (z : D) : Prop := ∀ O H vs, Dom O H → DmL O H vs xs → ∀ Q : VK, (∀ v H2, Same H H2 → Dm O H2 v z → Q v H2) → r vs H Q
def CN (r : List V → Hp → VK → Prop) (xs : List D) (ds : List D) : Prop := ∀ O H vs, Dom O H → DmL O H vs xs → ∀ Q : VK, (∀ p xs H2, H p = none → Same H H2 → H2 p = some (.lst xs) → DmL (O.and p) H2 xs ds → Q (.ref p) H2) → r vs H Q
def CM (r : List V → Hp → VK → Prop) (xs : List D) (ds : List (Str × D)) : Prop := ∀ O H vs, Dom O H → DmL O H vs xs → ∀ Q : VK, (∀ p xs H2, H p = none → Same H H2 → H2 p = some (.dK xs) → DmK (O.and p) H2 xs ds → Q (.ref p) H2) → r vs H Q

section
variable {K : PySem.W.Frag} {ρ : Env} {ta tb te tx : TE} {t u : TT} {x y z d : D} {r : R2} {ds es : List D}
theorem Mask.and_l {O : Mask} {p : Addr} : ∀ b, O b → (O.and p) b := fun _ h => .inl h
theorem EvN.toD (h : EvN te ρ ds) : EvD te ρ (.lst ds) := fun O σ H hd hr Q q => h O σ H hd hr Q fun p xs H2 n s e k => q _ _ s (.lst (hd.not n) e (k.sub Mask.and_l))
theorem EvM.toD {ds : List (Str × D)} (h : EvM te ρ ds) : EvD te ρ (.dic ds) := fun O σ H hd hr Q q => h O σ H hd hr Q fun p xs H2 n s e k => q _ _ s (.dic (hd.not n) (.inl e) (k.sub Mask.and_l))
theorem RN.toD (h : RN r x y ds) : RD r x y (.lst ds) := fun O H vx vy hd h1 h2 Q q => h O H vx vy hd h1 h2 Q fun p xs H2 n s e k => q _ _ s (.lst (hd.not n) e (k.sub Mask.and_l))
theorem EvD.is (h : EvD te ρ x) (e : x = y) : EvD te ρ y := by rw [← e]; exact h
theorem EvN.is (h : EvN te ρ ds) (e : ds = es) : EvN te ρ es := by rw [← e]; exact h
theorem EvT.is {a b : Bool} (h : EvT t ρ a) (e : a = b) : EvT t ρ b := by rw [← e]; exact h

theorem ev_var {i : Nat} (h : ρ[i]? = some (some d)) : EvD (tVar i) ρ d := fun O σ H hd hr Q q =>
  let ⟨v, h1, h2⟩ := hr.at_ i d h
  ⟨v, h1, q v H (Same.refl H) h2⟩
theorem ev_int {i : Int} : EvD (tC (.int i)) ρ (.int i) := fun O σ H hd hr Q q => q _ H (Same.refl H) (.int i)
theorem ev_str {i : Str} : EvD (tC (.str i)) ρ (.str i) := fun O σ H hd hr Q q => q _ H (Same.refl H) (.str i)
theorem ev_bl {i : Bool} : EvD (tC (.bl i)) ρ (.bl i) := fun O σ H hd hr Q q => q _ H (Same.refl H) (.bl i)
theorem ev_op (ha : EvD ta ρ x) (hb : EvD tb ρ y) (hr : RD r x y z) : EvD (tOp r ta tb) ρ z := fun O σ H hd hz Q q =>
  ha O σ H hd hz _ fun v H1 s1 m1 => hb O σ H1 (hd.same s1) (hz.same s1) _ fun w H2 s2 m2 => hr O H2 v w ((hd.same s1).same s2) (m1.same s2) m2 Q fun v3 H3 s3 m3 => q v3 H3 ((s1.trans s2).trans s3) m3
theorem free_back {H H' : Hp} {p : Addr} (s : Same H H') (n : H' p = none) : H p = none := s.free n
theorem en_op (ha : EvD ta ρ x) (hb : EvD tb ρ y) (hr : RN r x y ds) : EvN (tOp r ta tb) ρ ds := fun O σ H hd hz Q q =>
  ha O σ H hd hz _ fun v H1 s1 m1 => hb O σ H1 (hd.same s1) (hz.same s1) _ fun w H2 s2 m2 => hr O H2 v w ((hd.same s1).same s2) (m1.same s2) m2 Q fun p xs H3 n s3 e k => q p xs H3 ((s1.trans s2).free n) ((s1.trans s2).trans s3) e k
theorem ea_nil : EvA tNil ρ [] := fun O σ H hd hz Q q => q [] H (Same.refl H) .nil
theorem ea_cons {tr : TA} (ha : EvD ta ρ x) (hb : EvA tr ρ ds) : EvA (tCons ta tr) ρ (x :: ds) := fun O σ H hd hz Q q =>
  ha O σ H hd hz _ fun v H1 s1 m1 => hb O σ H1 (hd.same s1) (hz.same s1) _ fun vs H2 s2 m2 => q (v :: vs) H2 (s1.trans s2) (.cons (m1.same s2) m2)
theorem ev_tup {ta : TA} (h : EvA ta ρ ds) (hl : ds.length ≤ 100000) : EvD (tTup ta) ρ (.tup ds) := fun O σ H hd hz Q q =>
  h O σ H hd hz _ fun vs H1 s1 m1 => ⟨Nat.le_trans (by rw [m1.length]; exact hl) (by decide), fun p n => q _ _ (s1.trans (Same.new n)) (.tup ((hd.same s1).not n) upd_same (m1.new n))⟩
theorem en_lst {ta : TA} (h : EvA ta ρ ds) (hl : ds.length ≤ 100000) : EvN (tLst ta) ρ ds := fun O σ H hd hz Q q =>
  h O σ H hd hz _ fun vs H1 s1 m1 => ⟨Nat.le_trans (by rw [m1.length]; exact hl) (by decide), fun p n => q _ vs _ (s1.free n) (s1.trans (Same.new n)) upd_same ((m1.fresh n).new n)⟩
theorem ev_cb {ta : TA} {rc : List V → Hp → VK → Prop} (h : EvA ta ρ ds) (hc : CD rc ds z) : EvD (tCB rc ta) ρ z := fun O σ H hd hz Q q =>
  h O σ H hd hz _ fun vs H1 s1 m1 => hc O H1 vs (hd.same s1) m1 Q fun v H2 s2 m2 => q v H2 (s1.trans s2) m2
theorem en_cb {ta : TA} {rc : List V → Hp → VK → Prop} (h : EvA ta ρ ds) (hc : CN rc ds es) : EvN (tCB rc ta) ρ es := fun O σ H hd hz Q q =>
  h O σ H hd hz _ fun vs H1 s1 m1 => hc O H1 vs (hd.same s1) m1 Q fun p xs H2 n s2 e k => q p xs H2 (s1.free n) (s1.trans s2) e k
theorem em_cb {ta : TA} {rc : List V → Hp → VK → Prop} {es : List (Str × D)} (h : EvA ta ρ ds) (hc : CM rc ds es) : EvM (tCB rc ta) ρ es := fun O σ H hd hz Q q =>
  h O σ H hd hz _ fun vs H1 s1 m1 => hc O H1 vs (hd.same s1) m1 Q fun p xs H2 n s2 e k => q p xs H2 (s1.free n) (s1.trans s2) e k

/-! tests -/
theorem et_test {b : Bool} (h : EvD te ρ (.bl b)) : EvT (tTest te) ρ b := fun O σ H hd hz Q q => h O σ H hd hz _ fun v H1 s1 m1 => by
  cases m1
  exact ⟨b, rfl, q H1 s1⟩
theorem et_B {b : Bool} (h : EvD te ρ (.bl b)) : EvT (tB te) ρ b := fun O σ H hd hz Q q => h O σ H hd hz _ fun v H1 s1 m1 => by
  cases m1
  exact ⟨b, rfl, q H1 s1⟩
theorem et_yes : EvT tYes ρ true := fun O σ H hd hz Q q => q H (Same.refl H)
theorem et_not {b : Bool} (h : EvT t ρ b) : EvT (tNot t) ρ (!b) := fun O σ H hd hz Q q => h O σ H hd hz _ fun H1 s1 => q H1 s1
theorem et_and {a b : Bool} (h1 : EvT t ρ a) (h2 : a = true → EvT u ρ b) : EvT (tAnd t u) ρ (a && b) := fun O σ H hd hz Q q => h1 O σ H hd hz _ fun H1 s1 => by
  cases a with
  | true =>
    show u σ H1 Q
    exact h2 rfl O σ H1 (hd.same s1) (hz.same s1) Q fun H2 s2 => q H2 (s1.trans s2)
  | false => exact q H1 s1
theorem et_or {a b : Bool} (h1 : EvT t ρ a) (h2 : a = false → EvT u ρ b) : EvT (tOr t u) ρ (a || b) := fun O σ H hd hz Q q => h1 O σ H hd hz _ fun H1 s1 => by
  cases a with
  | false =>
    show u σ H1 Q
    exact h2 rfl O σ H1 (hd.same s1) (hz.same s1) Q fun H2 s2 => q H2 (s1.trans s2)
  | true => exact q H1 s1
theorem ev_andV {a b : Bool} (h1 : EvD ta ρ (.bl a)) (h2 : a = true → EvD tb ρ (.bl b)) : EvD (tAndV ta tb) ρ (.bl (a && b)) := fun O σ H hd hz Q q => h1 O σ H hd hz _ fun v H1 s1 m1 => by
  cases m1
  refine ⟨a, rfl, ?_⟩
  cases a with
  | true =>
    show tb σ H1 Q
    exact h2 rfl O σ H1 (hd.same s1) (hz.same s1) Q fun v H2 s2 m2 => q v H2 (s1.trans s2) m2
  | false => exact q _ H1 s1 (.bl _)
theorem ev_orV {a b : Bool} (h1 : EvD ta ρ (.bl a)) (h2 : a = false → EvD tb ρ (.bl b)) : EvD (tOrV ta tb) ρ (.bl (a || b)) := fun O σ H hd hz Q q => h1 O σ H hd hz _ fun v H1 s1 m1 => by
  cases m1
  refine ⟨a, rfl, ?_⟩
  cases a with
  | false =>
    show tb σ H1 Q
    exact h2 rfl O σ H1 (hd.same s1) (hz.same s1) Q fun v H2 s2 m2 => q v H2 (s1.trans s2) m2
  | true => exact q _ H1 s1 (.bl _)
theorem ev_notV {a : Bool} (h1 : EvD ta ρ (.bl a)) : EvD (tNotV ta) ρ (.bl (!a)) := fun O σ H hd hz Q q => h1 O σ H hd hz _ fun v H1 s1 m1 => by
  cases m1
  exact ⟨a, rfl, q _ H1 s1 (.bl _)⟩
theorem ev_if {b : Bool} (h : EvT t ρ b) (h1 : b = true → EvD ta ρ d) (h2 : b = false → EvD tb ρ d) : EvD (tIf t ta tb) ρ d := fun O σ H hd hz Q q => h O σ H hd hz _ fun H1 s1 => by
  cases b with
  | true =>
    show ta σ H1 Q
    exact h1 rfl O σ H1 (hd.same s1) (hz.same s1) Q fun v H2 s2 m2 => q v H2 (s1.trans s2) m2
  | false =>
    show tb σ H1 Q
    exact h2 rfl O σ H1 (hd.same s1) (hz.same s1) Q fun v H2 s2 m2 => q v H2 (s1.trans s2) m2
theorem en_if {b : Bool} (h : EvT t ρ b) (h1 : b = true → EvN ta ρ ds) (h2 : b = false → EvN tb ρ ds) : EvN (tIf t ta tb) ρ ds := fun O σ H hd hz Q q => h O σ H hd hz _ fun H1 s1 => by
  cases b with
  | true =>
    show ta σ H1 Q
    exact h1 rfl O σ H1 (hd.same s1) (hz.same s1) Q fun p xs H2 n s2 e k => q p xs H2 (s1.free n) (s1.trans s2) e k
  | false =>
    show tb σ H1 Q
    exact h2 rfl O σ H1 (hd.same s1) (hz.same s1) Q fun p xs H2 n s2 e k => q p xs H2 (s1.free n) (s1.trans s2) e k
/-- x or y, x a list -/
theorem ev_orL (h : EvD ta ρ (.lst ds)) (hb : ds = [] → EvD tb ρ d) (hn : ds ≠ [] → .lst ds = d) : EvD (tOrT K ta tb) ρ d := fun O σ H hd hz Q q => h O σ H hd hz _ fun v H1 s1 m1 => by
  cases m1 with
  | lst n e r =>
    rename_i a xs
    have el := r.length
    refine ⟨!xs.isEmpty, .inl ⟨xs, SqL.of e, rfl⟩, ?_⟩
    cases ds with
    | nil =>
      cases r
      show tb σ H1 Q
      exact hb rfl O σ H1 (hd.same s1) (hz.same s1) Q fun v H2 s2 m2 => q v H2 (s1.trans s2) m2
    | cons c cs =>
      cases r with
      | cons h1 h2 =>
        show Q _ H1
        refine q _ H1 s1 ?_
        rw [← hn (fun z => nomatch z)]
        exact .lst n e (.cons h1 h2)

/-! fields, dicts, calls -/
theorem ev_fld {C : Addr} {fs : List (Str × D)} {f : Str} (hc : Cls K C) (hn : NoAttr K C f) (h : EvD ta ρ (.obj C fs)) (hl : fs.lookup f = some d) : EvD (tFld K ta f) ρ d := fun O σ H hd hz Q q => h O σ H hd hz _ fun v H1 s1 m1 => by
  cases m1 with
  | obj n e r =>
    rename_i a dx vs
    obtain ⟨w, h1, h2⟩ := r.look hl
    exact ⟨a, C, dx, vs, w, rfl, e, hc, hn, h1, q w H1 s1 h2⟩
theorem ev_dget {kvs : List (Str × D)} {k : Str} (h : EvD ta ρ (.dic kvs)) (hk : EvD tb ρ (.str k)) (hv : valD kvs k = some d) : EvD (tDGet ta tb) ρ d := fun O σ H hd hz Q q => h O σ H hd hz _ fun v H1 s1 m1 =>
  hk O σ H1 (hd.same s1) (hz.same s1) _ fun w H2 s2 m2 => by
    cases m2
    have m3 := m1.same s2
    cases m3 with
    | dic n e r =>
      rename_i a vs
      obtain ⟨w, h1, h2⟩ := r.val hv
      exact ⟨a, w, rfl, .inl ⟨vs, .inr k, e, rfl, h1.symm⟩, q w H2 (s1.trans s2) h2⟩
theorem ev_dget2 {kvs : List (Str × D)} {k : Str} (h : EvD ta ρ (.dic kvs)) (hk : EvD tb ρ (.str k)) (hx : EvD tx ρ x) (hv : (valD kvs k).getD x = d) : EvD (tDGet2 ta tb tx) ρ d := fun O σ H hd hz Q q => h O σ H hd hz _ fun v H1 s1 m1 => by
  have m1' := m1
  cases m1' with
  | dic n e r =>
    rename_i a vs
    refine ⟨a, rfl, .inl ⟨vs, e⟩, hk O σ H1 (hd.same s1) (hz.same s1) _ fun w H2 s2 m2 => ?_⟩
    cases m2
    refine hx O σ H2 ((hd.same s1).same s2) ((hz.same s1).same s2) _ fun wx H3 s3 m3 => ?_
    have m4 := (m1.same s2).same s3
    cases m4 with
    | dic n' e' r' =>
      rename_i vs'
      refine ⟨valV vs' (.inr k), .inl ⟨vs', .inr k, e', rfl, rfl⟩, q _ H3 ((s1.trans s2).trans s3) ?_⟩
      cases hq : valD kvs k with
      | none =>
        rw [r'.val_none hq]
        rw [hq] at hv
        rw [← hv]
        exact m3
      | some dd =>
        obtain ⟨w, h1, h2⟩ := r'.val hq
        rw [h1]
        rw [hq] at hv
        rw [← hv]
        exact h2
theorem ev_din {kvs : List (Str × D)} {k : Str} (hk : EvD tb ρ (.str k)) (h : EvD ta ρ (.dic kvs)) : EvD (tDIn tb ta) ρ (.bl (valD kvs k).isSome) := fun O σ H hd hz Q q => hk O σ H hd hz _ fun w H1 s1 m1 =>
  h O σ H1 (hd.same s1) (hz.same s1) _ fun v H2 s2 m2 => by
    cases m1
    cases m2 with
    | dic n e r =>
      rename_i a vs
      refine ⟨a, valV vs (.inr k), rfl, .inl ⟨vs, .inr k, e, rfl, rfl⟩, q _ H2 (s1.trans s2) ?_⟩
      rw [r.isSome k]
      exact .bl _
theorem ev_dnotin {kvs : List (Str × D)} {k : Str} (hk : EvD tb ρ (.str k)) (h : EvD ta ρ (.dic kvs)) : EvD (tDNotIn tb ta) ρ (.bl (!(valD kvs k).isSome)) := fun O σ H hd hz Q q => hk O σ H hd hz _ fun w H1 s1 m1 =>
  h O σ H1 (hd.same s1) (hz.same s1) _ fun v H2 s2 m2 => by
    cases m1
    cases m2 with
    | dic n e r =>
      rename_i a vs
      refine ⟨a, valV vs (.inr k), rfl, .inl ⟨vs, .inr k, e, rfl, rfl⟩, q _ H2 (s1.trans s2) ?_⟩
      rw [r.isSome k]
      exact .bl _

/-- a def that hands back data, as F says of its arguments' data; a new list; a new dict -/
def SpD (F : List D → D → Prop) : Sp := fun vs H Q _ => ∃ O ds d, Dom O H ∧ DmL O H vs ds ∧ F ds d ∧ ∀ v H2, Same H H2 → Dm O H2 v d → Q v H2
def SpN (F : List D → List D → Prop) : Sp := fun vs H Q _ => ∃ O ds es, Dom O H ∧ DmL O H vs ds ∧ F ds es ∧ ∀ p xs H2, H p = none → Same H H2 → H2 p = some (.lst xs) → DmL (O.and p) H2 xs es → Q (.ref p) H2
def SpM (F : List D → List (Str × D) → Prop) : Sp := fun vs H Q _ => ∃ O ds es, Dom O H ∧ DmL O H vs ds ∧ F ds es ∧ ∀ p xs H2, H p = none → Same H H2 → H2 p = some (.dK xs) → DmK (O.and p) H2 xs es → Q (.ref p) H2
/-- .. some data of S -/
def SpS (F : List D → (D → Prop) → Prop) : Sp := fun vs H Q _ => ∃ O ds S, Dom O H ∧ DmL O H vs ds ∧ F ds S ∧ ∀ v H2 d, S d → Same H H2 → Dm O H2 v d → Q v H2
theorem ev_call {F : List D → D → Prop} {E : XK} {ta : TA} (h : EvA ta ρ ds) (f : F ds z) : EvD (tCall (SpD F) [] E ta) ρ z := fun O σ H hd hz Q q =>
  h O σ H hd hz _ fun vs H1 s1 m1 => ⟨O, ds, z, hd.same s1, by rw [List.append_nil]; exact m1, f, fun v H2 s2 m2 => q v H2 (s1.trans s2) m2⟩
theorem en_call {F : List D → List D → Prop} {E : XK} {ta : TA} (h : EvA ta ρ ds) (f : F ds es) : EvN (tCall (SpN F) [] E ta) ρ es := fun O σ H hd hz Q q =>
  h O σ H hd hz _ fun vs H1 s1 m1 => ⟨O, ds, es, hd.same s1, by rw [List.append_nil]; exact m1, f, fun p xs H2 n s2 e k => q p xs H2 (s1.free n) (s1.trans s2) e k⟩
theorem em_call {F : List D → List (Str × D) → Prop} {E : XK} {ta : TA} {es : List (Str × D)} (h : EvA ta ρ ds) (f : F ds es) : EvM (tCall (SpM F) [] E ta) ρ es := fun O σ H hd hz Q q =>
  h O σ H hd hz _ fun vs H1 s1 m1 => ⟨O, ds, es, hd.same s1, by rw [List.append_nil]; exact m1, f, fun p xs H2 n s2 e k => q p xs H2 (s1.free n) (s1.trans s2) e k⟩
theorem ev_meth {F : List D → D → Prop} {E : XK} {tb : TA} {C : Addr} {fs : List (Str × D)} {m : Str} (ho : EvD ta ρ (.obj C fs)) (hm : fs.lookup m = none) (h : EvA tb ρ ds) (f : F (.obj C fs :: ds) z) : EvD (tMeth C m (SpD F) [] E ta tb) ρ z := fun O σ H hd hz Q q =>
  ho O σ H hd hz _ fun v H1 s1 m1 => by
    have m1' := m1
    cases m1' with
    | obj n e r =>
      rename_i a dx vs
      refine ⟨a, dx, vs, rfl, e, r.look_none hm, h O σ H1 (hd.same s1) (hz.same s1) _ fun ws H2 s2 m2 => ?_⟩
      exact ⟨O, _, z, (hd.same s1).same s2, by rw [List.append_nil]; exact .cons (m1.same s2) m2, f, fun v H3 s3 m3 => q v H3 ((s1.trans s2).trans s3) m3⟩
theorem en_meth {F : List D → List D → Prop} {E : XK} {tb : TA} {C : Addr} {fs : List (Str × D)} {m : Str} (ho : EvD ta ρ (.obj C fs)) (hm : fs.lookup m = none) (h : EvA tb ρ ds) (f : F (.obj C fs :: ds) es) : EvN (tMeth C m (SpN F) [] E ta tb) ρ es := fun O σ H hd hz Q q =>
  ho O σ H hd hz _ fun v H1 s1 m1 => by
    have m1' := m1
    cases m1' with
    | obj n e r =>
      rename_i a dx vs
      refine ⟨a, dx, vs, rfl, e, r.look_none hm, h O σ H1 (hd.same s1) (hz.same s1) _ fun ws H2 s2 m2 => ?_⟩
      exact ⟨O, _, es, (hd.same s1).same s2, by rw [List.append_nil]; exact .cons (m1.same s2) m2, f, fun p xs H3 n s3 e k => q p xs H3 ((s1.trans s2).free n) ((s1.trans s2).trans s3) e k⟩
end
end Wt

/-! WtC: statements, loops, comprehensions. -/
namespace Wt
open PySem PySem.Spec PyProof.Rows L2

/-- what an own object holds -/
inductive OC where
  | L (ds : List D)
  | M (kvs : List (Str × D))
abbrev Own := Option (Nat × OC)
def OwnAt (O : Mask) (H : Hp) (p : Addr) : OC → Prop
  | .L ds => ∃ xs, H p = some (.lst xs) ∧ DmL O H xs ds
  | .M kvs => ∃ xs, H p = some (.dK xs) ∧ DmK O H xs kvs
/-- the frame: H0 stood at the entry -/
def At (O : Mask) (H0 : Hp) (ρ : Env) (w : Own) (σ : L2.St) (H : Hp) : Prop := Same H0 H ∧ match w with
  | none => Rz O ρ σ H
  | some (j, c) => ∃ p, H0 p = none ∧ σ[j]? = some (some (.ref p)) ∧ OwnAt (O.and p) H p c ∧ Rz (O.and p) ρ σ H
def EvW (w : Own) (te : TE) (ρ : Env) (d : D) : Prop := match w with
  | none => EvD te ρ d
  | some (j, c) => ∀ (O : Mask) (p : Addr) (σ : L2.St) (H : Hp), Dom (O.and p) H → σ[j]? = some (some (.ref p)) → OwnAt (O.and p) H p c → Rz (O.and p) ρ σ H → ∀ Q : VK, (∀ v H2, Same H H2 → Dm (O.and p) H2 v d → Q v H2) → te σ H Q
def EvTW (w : Own) (t : TT) (ρ : Env) (b : Bool) : Prop := match w with
  | none => EvT t ρ b
  | some (j, c) => ∀ (O : Mask) (p : Addr) (σ : L2.St) (H : Hp), Dom (O.and p) H → σ[j]? = some (some (.ref p)) → OwnAt (O.and p) H p c → Rz (O.and p) ρ σ H → ∀ Q : Bool → Hp → Prop, (∀ H2, Same H H2 → Q b H2) → t σ H Q
def wslot : Own → Option Nat
  | none => none
  | some (j, _) => some j

section
variable {O : Mask} {H0 H H' : Hp} {ρ : Env} {w : Own} {σ : L2.St} {p : Addr} {te : TE} {t : TT} {d : D} {c : OC} {b : Bool}
theorem EvD.up (h : EvD te ρ d) : EvW w te ρ d := by
  cases w with
  | none => exact h
  | some jc =>
    obtain ⟨j, c⟩ := jc
    intro O p σ H hd _ _ hr Q q
    exact h _ σ H hd hr Q q
theorem EvT.up (h : EvT t ρ b) : EvTW w t ρ b := by
  cases w with
  | none => exact h
  | some jc =>
    obtain ⟨j, c⟩ := jc
    intro O p σ H hd _ _ hr Q q
    exact h _ σ H hd hr Q q
theorem OwnAt.some {O : Mask} (h : OwnAt O H p c) : ∃ o, H p = some o := by
  cases c with
  | L ds => obtain ⟨xs, e, _⟩ := h; exact ⟨_, e⟩
  | M ds => obtain ⟨xs, e, _⟩ := h; exact ⟨_, e⟩
theorem OwnAt.same {O : Mask} (h : OwnAt O H p c) (s : Same H H') : OwnAt O H' p c := by
  cases c with
  | L ds => obtain ⟨xs, e, k⟩ := h; exact ⟨xs, s _ _ e, k.same s⟩
  | M ds => obtain ⟨xs, e, k⟩ := h; exact ⟨xs, s _ _ e, k.same s⟩
theorem At.weak {r : Env} (h : At O H0 ρ w σ H) (k : Wk r ρ) : At O H0 r w σ H := by
  cases w with
  | none => exact ⟨h.1, Rz.weak h.2 k⟩
  | some jc =>
    obtain ⟨j, c⟩ := jc
    obtain ⟨s, p, n, e, o, r⟩ := h
    exact ⟨s, p, n, e, o, r.weak k⟩
theorem At.grow (h : At O H0 ρ w σ H) (s : Same H H') : At O H0 ρ w σ H' := by
  cases w with
  | none => exact ⟨h.1.trans s, Rz.same h.2 s⟩
  | some jc =>
    obtain ⟨j, c⟩ := jc
    obtain ⟨s0, p, n, e, o, r⟩ := h
    exact ⟨s0.trans s, p, n, e, o.same s, r.same s⟩
theorem At.rebase {H1 : Hp} (h : At O H1 ρ w σ H) (s : Same H0 H1) : At O H0 ρ w σ H := by
  cases w with
  | none => exact ⟨s.trans h.1, h.2⟩
  | some jc =>
    obtain ⟨j, c⟩ := jc
    obtain ⟨s0, p, n, e, o, r⟩ := h
    exact ⟨s.trans s0, p, s.free n, e, o, r⟩
/-- the use of it: the mask as it is -/
theorem At.use (h : At O H0 ρ w σ H) (hd : Dom O H0) : ∃ O', Dom O' H ∧ Rz O' ρ σ H ∧ (∀ b, O b → O' b) ∧ (∀ b, O' b → O b ∨ H0 b = none) ∧
    (∀ {te d}, EvW w te ρ d → ∀ Q : VK, (∀ v H2, Same H H2 → Dm O' H2 v d → Q v H2) → te σ H Q) ∧ (∀ {t b}, EvTW w t ρ b → ∀ Q : Bool → Hp → Prop, (∀ H2, Same H H2 → Q b H2) → t σ H Q) ∧
    (∀ i v d H2, Same H H2 → Dm O' H2 v d → wslot w ≠ some i → At O H0 (ρ.set i (some d)) w (σ.set i (some v)) H2) ∧ (∀ i v H2, Same H H2 → wslot w ≠ some i → At O H0 (ρ.set i none) w (σ.set i v) H2) := by
  cases w with
  | none =>
    obtain ⟨s, r⟩ := h
    exact ⟨O, hd.same s, r, fun _ z => z, fun _ z => .inl z, fun e Q q => e O σ H (hd.same s) r Q q, fun e Q q => e O σ H (hd.same s) r Q q, fun i v d H2 s2 m _ => ⟨s.trans s2, (Rz.same r s2).set m⟩, fun i v H2 s2 _ => ⟨s.trans s2, (Rz.same r s2).setN⟩⟩
  | some jc =>
    obtain ⟨j, c⟩ := jc
    obtain ⟨s, p, n, e, o, r⟩ := h
    obtain ⟨ob, eo⟩ := o.some
    have dm : Dom (O.and p) H := (hd.same s).and eo
    refine ⟨O.and p, dm, r, Mask.and_l, fun b z => z.elim .inl fun q => .inr (by rw [q]; exact n), fun ev Q q => ev O p σ H dm e o r Q q, fun ev Q q => ev O p σ H dm e o r Q q, fun i v d H2 s2 m hi => ⟨s.trans s2, p, n, ?_, o.same s2, (Rz.same r s2).set m⟩, fun i v H2 s2 hi => ⟨s.trans s2, p, n, ?_, o.same s2, (Rz.same r s2).setN⟩⟩
    · rw [List.getElem?_set_ne fun z => hi (by rw [z]; rfl)]
      exact e
    · rw [List.getElem?_set_ne fun z => hi (by rw [z]; rfl)]
      exact e
/-- an own list becomes data -/
theorem At.freeze {j : Nat} {ds : List D} (h : At O H0 ρ (some (j, .L ds)) σ H) (hd : Dom O H0) (hj : j < ρ.length := by exact Nat.le_of_ble_eq_true rfl) : At O H0 (ρ.set j (some (.lst ds))) none σ H := by
  obtain ⟨s, p, n, e, ⟨xs, eo, k⟩, r⟩ := h
  have r' := r.sub Mask.and_l
  refine ⟨s, by rw [List.length_set]; exact r'.len, fun i d q => ?_⟩
  by_cases hi : j = i
  · subst hi
    rw [List.getElem?_set_self hj] at q
    cases q
    exact ⟨_, e, .lst (hd.not n) eo (k.sub Mask.and_l)⟩
  · rw [List.getElem?_set_ne hi] at q
    exact r'.at_ i d q
theorem At.freezeM {j : Nat} {ds : List (Str × D)} (h : At O H0 ρ (some (j, .M ds)) σ H) (hd : Dom O H0) (hj : j < ρ.length := by exact Nat.le_of_ble_eq_true rfl) : At O H0 (ρ.set j (some (.dic ds))) none σ H := by
  obtain ⟨s, p, n, e, ⟨xs, eo, k⟩, r⟩ := h
  have r' := r.sub Mask.and_l
  refine ⟨s, by rw [List.length_set]; exact r'.len, fun i d q => ?_⟩
  by_cases hi : j = i
  · subst hi
    rw [List.getElem?_set_self hj] at q
    cases q
    exact ⟨_, e, .dic (hd.not n) (.inl eo) (k.sub Mask.and_l)⟩
  · rw [List.getElem?_set_ne hi] at q
    exact r'.at_ i d q
theorem At.begin_ {N : List Str} {vs : List V} {ds : List D} (h : DmL O H vs ds) (hn : ds.length ≤ N.length := by exact Nat.le_of_ble_eq_true rfl) : At O H (ds.map some ++ List.replicate (N.length - ds.length) none) none (L2.start N vs) H := ⟨Same.refl H, Rz.begin_ h hn⟩
end

section
variable {O : Mask} {H0 H H' : Hp} {ρ : Env} {w : Own} {σ : L2.St} {D' : Ends} {te tl : TE} {t : TT} {d : D} {b : Bool} {t1 t2 tb : TS} {K : PySem.W.Frag} {ds es : List D} {i j : Nat}
theorem s_seq (h : t1 { D' with nx := t2 D' } σ H) : tSeq t1 t2 D' σ H := h
theorem s_asg (hd : Dom O H0) (h : EvW w te ρ d) (hi : wslot w ≠ some i) (k : ∀ σ H, At O H0 (ρ.set i (some d)) w σ H → D'.nx σ H) (a : At O H0 ρ w σ H) : tAsg te (gName i) D' σ H := by
  obtain ⟨O', dm, r, o1, o2, ev, et, st, sn⟩ := a.use hd
  exact ev h _ fun v H2 s2 m2 => k _ _ (st i v d H2 s2 m2 hi)
theorem s_new (hd : Dom O H0) (h : EvN te ρ ds) (hi : i < ρ.length) (k : ∀ σ H, At O H0 (ρ.set i none) (some (i, .L ds)) σ H → D'.nx σ H) (a : At O H0 ρ none σ H) : tAsg te (gName i) D' σ H := by
  obtain ⟨s, r⟩ := a
  exact h O σ H (hd.same s) r _ fun p xs H2 n s2 e m => k _ _ ⟨s.trans s2, p, s.free n, List.getElem?_set_self (by rw [r.len]; exact hi), ⟨xs, e, m⟩, ((Rz.fresh r n).same s2).setN⟩
theorem s_newM {kvs : List (Str × D)} (hd : Dom O H0) (h : EvM te ρ kvs) (hi : i < ρ.length) (k : ∀ σ H, At O H0 (ρ.set i none) (some (i, .M kvs)) σ H → D'.nx σ H) (a : At O H0 ρ none σ H) : tAsg te (gName i) D' σ H := by
  obtain ⟨s, r⟩ := a
  exact h O σ H (hd.same s) r _ fun p xs H2 n s2 e m => k _ _ ⟨s.trans s2, p, s.free n, List.getElem?_set_self (by rw [r.len]; exact hi), ⟨xs, e, m⟩, ((Rz.fresh r n).same s2).setN⟩
theorem sz_lt {n : Nat} (h : n < 100000) : n < sizeLine := Nat.lt_of_lt_of_le h (by decide)
theorem s_app (hd : Dom O H0) (h : EvW (some (j, .L ds)) te ρ d) (hz : ds.length < 100000) (k : ∀ σ H, At O H0 ρ (some (j, .L (ds ++ [d]))) σ H → D'.nx σ H) (a : At O H0 ρ (some (j, .L ds)) σ H) :
    tDrop (tBM K "list" rAppend (tVar j) (tCons te tNil)) D' σ H := by
  obtain ⟨s, p, n, e, ⟨xs, eo, m⟩, r⟩ := a
  refine ⟨_, e, .inl ⟨rfl, xs, SqL.of eo⟩, ?_⟩
  refine h O p σ H ((hd.same s).and eo) e ⟨xs, eo, m⟩ r _ fun v H2 s2 m2 => ?_
  refine ⟨p, xs, v, rfl, rfl, s2 _ _ eo, sz_lt (by rw [m.length]; exact hz), k _ _ ⟨fun b o q => ?_, p, n, e, ⟨_, upd_same, ?_⟩, ?_⟩⟩
  · rw [upd_ne (ne_of_none q n)]
    exact s2 _ _ (s b o q)
  · exact ((m.same s2).snoc m2).updO (.inr rfl)
  · exact (Rz.same r s2).updO (.inr rfl)
theorem s_ext (hd : Dom O H0) (h : EvW (some (j, .L ds)) te ρ (.lst es)) (hz : ds.length + es.length < 100000) (k : ∀ σ H, At O H0 ρ (some (j, .L (ds ++ es))) σ H → D'.nx σ H) (a : At O H0 ρ (some (j, .L ds)) σ H) :
    tDrop (tBM K "list" rExtend (tVar j) (tCons te tNil)) D' σ H := by
  obtain ⟨s, p, n, e, ⟨xs, eo, m⟩, r⟩ := a
  refine ⟨_, e, .inl ⟨rfl, xs, SqL.of eo⟩, ?_⟩
  refine h O p σ H ((hd.same s).and eo) e ⟨xs, eo, m⟩ r _ fun v H2 s2 m2 => ?_
  cases m2 with
  | lst n2 e2 r2 =>
    rename_i b zs
    refine ⟨p, b, xs, zs, rfl, rfl, s2 _ _ eo, e2, Nat.le_of_lt (sz_lt (by rw [m.length, r2.length]; exact hz)), k _ _ ⟨fun b o q => ?_, p, n, e, ⟨_, upd_same, ?_⟩, ?_⟩⟩
    · rw [upd_ne (ne_of_none q n)]
      exact s2 _ _ (s b o q)
    · exact ((m.same s2).append r2).updO (.inr rfl)
    · exact (Rz.same r s2).updO (.inr rfl)
theorem s_dput {tk : TE} {kvs : List (Str × D)} {key : Str} (hd : Dom O H0) (h : EvW (some (j, .M kvs)) te ρ d) (hk : EvD tk ρ (.str key)) (hz : kvs.length < 100000) (k : ∀ σ H, At O H0 ρ (some (j, .M (putD kvs key d))) σ H → D'.nx σ H) (a : At O H0 ρ (some (j, .M kvs)) σ H) :
    sDPut (tVar j) tk te D' σ H := by
  obtain ⟨s, p, n, e, ⟨xs, eo, m⟩, r⟩ := a
  refine h O p σ H ((hd.same s).and eo) e ⟨xs, eo, m⟩ r _ fun v H2 s2 m2 => ?_
  refine ⟨_, e, hk _ σ H2 (((hd.same s).and eo).same s2) (r.same s2) _ fun kv H3 s3 m3 => ?_⟩
  cases m3
  have s4 := s2.trans s3
  refine ⟨p, _, rfl, .inl ⟨xs, .inr key, s4 _ _ eo, rfl, sz_lt (by rw [m.length]; exact hz), rfl⟩, k _ _ ⟨fun b o q => ?_, p, n, e, ⟨_, upd_same, ?_⟩, ?_⟩⟩
  · rw [upd_ne (ne_of_none q n)]
    exact s4 _ _ (s b o q)
  · exact ((m.same s4).put key (m2.same s3)).updO (.inr rfl)
  · exact (Rz.same r s4).updO (.inr rfl)
theorem s_if (hd : Dom O H0) (h : EvTW w t ρ b) (h1 : b = true → ∀ σ H, At O H0 ρ w σ H → t1 D' σ H) (h2 : b = false → ∀ σ H, At O H0 ρ w σ H → t2 D' σ H) (a : At O H0 ρ w σ H) : tIfS t t1 t2 D' σ H := by
  obtain ⟨O', dm, r, o1, o2, ev, et, st, sn⟩ := a.use hd
  refine et h _ fun H2 s2 => ?_
  cases b with
  | true => exact h1 rfl _ _ (a.grow s2)
  | false => exact h2 rfl _ _ (a.grow s2)
theorem s_ret (hd : Dom O H0) (h : EvW w te ρ d) (k : ∀ v H2, Same H0 H2 → Dm O H2 v d → D'.rt v H2) (a : At O H0 ρ w σ H) : tRet te D' σ H := by
  obtain ⟨O', dm, r, o1, o2, ev, et, st, sn⟩ := a.use hd
  exact ev h _ fun v H2 s2 m2 => k v H2 (a.1.trans s2) (m2.sub o1)
theorem s_retN (hd : Dom O H0) (h : EvN te ρ ds) (k : ∀ p xs H2, H0 p = none → Same H0 H2 → H2 p = some (.lst xs) → DmL (O.and p) H2 xs ds → D'.rt (.ref p) H2) (a : At O H0 ρ none σ H) : tRet te D' σ H := by
  obtain ⟨s, r⟩ := a
  exact h O σ H (hd.same s) r _ fun p xs H2 n s2 e m => k p xs H2 (s.free n) (s.trans s2) e m
theorem s_retO (k : ∀ p xs H2, H0 p = none → Same H0 H2 → H2 p = some (.lst xs) → DmL (O.and p) H2 xs ds → D'.rt (.ref p) H2) (a : At O H0 ρ (some (j, .L ds)) σ H) : tRet (tVar j) D' σ H := by
  obtain ⟨s, p, n, e, ⟨xs, eo, m⟩, r⟩ := a
  exact ⟨_, e, k p xs H n s eo m⟩
theorem s_retOM {kvs : List (Str × D)} (k : ∀ p xs H2, H0 p = none → Same H0 H2 → H2 p = some (.dK xs) → DmK (O.and p) H2 xs kvs → D'.rt (.ref p) H2) (a : At O H0 ρ (some (j, .M kvs)) σ H) : tRet (tVar j) D' σ H := by
  obtain ⟨s, p, n, e, ⟨xs, eo, m⟩, r⟩ := a
  exact ⟨_, e, k p xs H n s eo m⟩
/-- return own or [..] -/
theorem s_retOr (hd : Dom O H0) (hb : ds = [] → EvN te ρ es) (he : ds ≠ [] → ds = es) (k : ∀ p xs H2, H0 p = none → Same H0 H2 → H2 p = some (.lst xs) → DmL (O.and p) H2 xs es → D'.rt (.ref p) H2) (a : At O H0 ρ (some (j, .L ds)) σ H) : tRet (tOrT K (tVar j) te) D' σ H := by
  obtain ⟨s, p, n, e, ⟨xs, eo, m⟩, r⟩ := a
  refine ⟨_, e, !xs.isEmpty, .inl ⟨xs, SqL.of eo, rfl⟩, ?_⟩
  cases ds with
  | nil =>
    cases m
    show te σ H D'.rt
    have r' := r.sub (O' := O) Mask.and_l
    exact hb rfl O σ H (hd.same s) r' _ fun p2 xs2 H2 n2 s2 e2 m2 => k p2 xs2 H2 (s.free n2) (s.trans s2) e2 m2
  | cons c cs =>
    have ee := he (fun z => nomatch z)
    subst ee
    cases m with
    | cons h1 h2 => exact k p _ H n s eo (.cons h1 h2)
theorem s_drop (hd : Dom O H0) (h : EvW w te ρ d) (k : ∀ σ H, At O H0 ρ w σ H → D'.nx σ H) (a : At O H0 ρ w σ H) : tDrop te D' σ H := by
  obtain ⟨O', dm, r, o1, o2, ev, et, st, sn⟩ := a.use hd
  exact ev h _ fun v H2 s2 m2 => k _ _ (a.grow s2)

/-! loops -/
/-- over a list: A the invariant over the loop's own base -/
theorem s_forA {g : TG} (hd : Dom O H0) (h : EvW w tl ρ (.lst ds)) (A : Hp → Nat → L2.St → Hp → Prop) (hA : ∀ Hb i σ H, A Hb i σ H → Same Hb H)
    (h0 : ∀ Hb σ H, Same H0 Hb → Dom O Hb → At O Hb ρ w σ H → A Hb 0 σ H)
    (hs : ∀ Hb i d, Same H0 Hb → Dom O Hb → ds[i]? = some d → ∀ v σ H, A Hb i σ H → Dm O Hb v d → g v σ H fun σ2 H2 => tb { D' with nx := A Hb (i + 1), ct := A Hb (i + 1), bk := D'.nx } σ2 H2)
    (hn : ∀ Hb σ H, Same H0 Hb → Dom O Hb → A Hb ds.length σ H → D'.nx σ H) (a : At O H0 ρ w σ H) : tFor (iList K tl) g tb D' σ H := by
  have main : ∀ (Hb : Hp) (v : V) (H1 : Hp), Same H0 Hb → Dom O Hb → At O Hb ρ w σ H1 → Dm O Hb v (.lst ds) → iList K (fun _ _ Q => Q v H1) σ H fun J H1 => ∃ W : Nat → Nat → L2.St → Hp → Prop, (∃ m, W 0 m σ H1) ∧ ∀ i m σ H, W i m σ H →
      (J.stop i H ∧ D'.nx σ H) ∨ (J.go i H ∧ ∃ N : L2.St → Hp → Prop, (∀ σ' H', N σ' H' → ∃ m', m' < m ∧ W (i + 1) m' σ' H') ∧ ∀ x H', J.yld i H x H' → g x σ H' fun σ2 H2 => tb { D' with nx := N, ct := N, bk := D'.nx } σ2 H2) := by
    intro Hb v H1 sb db ab mb
    cases mb with
    | lst n e r =>
      rename_i a xs
      refine ⟨a, rfl, ⟨xs, SqL.of (ab.1 _ _ e)⟩, for_list (K := K) (a := a) (xs := xs) (A Hb) (h0 Hb σ H1 sb db ab) (fun i σ H _ z => SqL.of (hA _ _ _ _ z _ _ e)) (fun i x σ H hx z => ?_) (fun σ H z => hn Hb σ H sb db (by rw [← r.length]; exact z))⟩
      obtain ⟨d, hd2, m⟩ := r.getV hx
      exact hs Hb i d sb db hd2 x σ H z m
  cases w with
  | none =>
    obtain ⟨s, r⟩ := a
    exact h O σ H (hd.same s) r _ fun v H1 s1 m1 => main H1 v H1 (s.trans s1) (hd.same (s.trans s1)) ⟨Same.refl _, Rz.same r s1⟩ m1
  | some jc =>
    obtain ⟨j, c⟩ := jc
    obtain ⟨s, p, n, e, o, r⟩ := a
    obtain ⟨ob, eo⟩ := o.some
    refine h O p σ H ((hd.same s).and eo) e o r _ fun v H1 s1 m1 => ?_
    have sbb : Same H0 (fun b => if b = p then none else H1 b) := fun b u q => by
      show (if b = p then none else H1 b) = some u
      rw [if_neg (ne_of_none q n)]
      exact s1 _ _ (s _ _ q)
    refine main (fun b => if b = p then none else H1 b) v H1 sbb (hd.same sbb) ⟨fun b u q => ?_, p, if_pos rfl, e, o.same s1, Rz.same r s1⟩ ?_
    · by_cases hb : b = p
      · subst hb
        simp at q
      · have q2 : (if b = p then none else H1 b) = some u := q
        rw [if_neg hb] at q2
        exact q2
    · refine Dm.kp (.of fun b u q z => ?_) (fun b z => .inl (.inl z)) m1
      show (if b = p then none else H1 b) = some u
      rw [if_neg fun y => q (.inr y)]
      exact z
end
end Wt

/-! WtC2: targets, loops, comprehensions. -/
namespace Wt
open PySem PySem.Spec PyProof.Rows L2

/-! ### targets -/
def TgOk (K : PySem.W.Frag) (g : TG) (d : D) (f : Env → Env) (js : List Nat) : Prop := ∀ (O : Mask) (H : Hp) (v : V) (ρ : Env) (σ : L2.St), Dm O H v d → Rz O ρ σ H → ∀ Q : L2.St → Hp → Prop,
  (∀ σ', Rz O (f ρ) σ' H → σ'.length = σ.length → (∀ i, i ∉ js → σ'[i]? = σ[i]?) → Q σ' H) → g v σ H Q
def TgsOk (K : PySem.W.Frag) (g : TGs) (ds : List D) (f : Env → Env) (js : List Nat) : Prop := ∀ (O : Mask) (H : Hp) (vs : List V) (ρ : Env) (σ : L2.St), DmL O H vs ds → Rz O ρ σ H → ∀ Q : L2.St → Hp → Prop,
  (∀ σ', Rz O (f ρ) σ' H → σ'.length = σ.length → (∀ i, i ∉ js → σ'[i]? = σ[i]?) → Q σ' H) → g vs σ H Q
section
variable {K : PySem.W.Frag} {d : D} {ds : List D} {j n : Nat} {g : TG} {gs : TGs} {f f' : Env → Env} {js js' : List Nat}
theorem tg_name : TgOk K (gName j) d (fun ρ => ρ.set j (some d)) [j] := fun O H v ρ σ m r Q q =>
  q _ (r.set m) (List.length_set ..) fun i hi => List.getElem?_set_ne fun z => hi (by rw [z]; exact List.mem_singleton.mpr rfl)
theorem tgs_nil : TgsOk K gNil [] (fun ρ => ρ) [] := fun O H vs ρ σ m r Q q => by
  cases m
  exact ⟨rfl, q σ r rfl fun _ _ => rfl⟩
theorem tgs_cons (h : TgOk K g d f js) (hs : TgsOk K gs ds f' js') : TgsOk K (gCons g gs) (d :: ds) (fun ρ => f' (f ρ)) (js ++ js') := fun O H vs ρ σ m r Q q => by
  cases m with
  | cons m1 m2 =>
    refine ⟨_, _, rfl, h O H _ ρ σ m1 r _ fun σ1 r1 l1 k1 => hs O H _ _ σ1 m2 r1 _ fun σ2 r2 l2 k2 => q σ2 r2 (l2.trans l1) fun i hi => ?_⟩
    rw [k2 i fun z => hi (List.mem_append_right _ z), k1 i fun z => hi (List.mem_append_left _ z)]
theorem tg_tup (hs : TgsOk K gs ds f js) (hn : ds.length = n) : TgOk K (gTup K n gs) (.tup ds) f js := fun O H v ρ σ m r Q q => by
  cases m with
  | tup no e m1 => exact ⟨_, _, rfl, SqT.of e, m1.length.trans hn, hs O H _ ρ σ m1 r Q q⟩
end

section
variable {O : Mask} {H0 H H' : Hp} {ρ : Env} {w : Own} {σ : L2.St} {D' : Ends} {te tl : TE} {t : TT} {d : D} {b : Bool} {t1 t2 tb : TS} {K : PySem.W.Frag} {ds es : List D} {i j : Nat} {g : TG} {f : Env → Env} {js : List Nat}
theorem At.tgt {v : V} {Q : L2.St → Hp → Prop} (a : At O H0 ρ w σ H) (m : Dm O H0 v d) (tg : TgOk K g d f js) (hj : ∀ i, wslot w = some i → i ∉ js) (q : ∀ σ', At O H0 (f ρ) w σ' H → Q σ' H) : g v σ H Q := by
  cases w with
  | none =>
    obtain ⟨s, r⟩ := a
    exact tg O H v ρ σ (m.same s) r Q fun σ' r' _ _ => q σ' ⟨s, r'⟩
  | some jc =>
    obtain ⟨j, c⟩ := jc
    obtain ⟨s, p, n, e, o, r⟩ := a
    exact tg _ H v ρ σ ((m.fresh n).same s) r Q fun σ' r' _ k => q σ' ⟨s, p, n, by rw [k j (hj j rfl)]; exact e, o, r'⟩
/-- target = e, the target any -/
theorem s_asgT (hd : Dom O H0) (h : EvW w te ρ d) (tg : TgOk K g d f js) (hj : ∀ i, wslot w = some i → i ∉ js) (k : ∀ σ H, At O H0 (f ρ) w σ H → D'.nx σ H) (a : At O H0 ρ w σ H) : tAsg te g D' σ H := by
  cases w with
  | none =>
    obtain ⟨s, r⟩ := a
    exact h O σ H (hd.same s) r _ fun v H2 s2 m2 => tg O H2 v ρ σ m2 (Rz.same r s2) _ fun σ' r' _ _ => k σ' H2 ⟨s.trans s2, r'⟩
  | some jc =>
    obtain ⟨j, c⟩ := jc
    obtain ⟨s, p, n, e, o, r⟩ := a
    obtain ⟨ob, eo⟩ := o.some
    exact h O p σ H ((hd.same s).and eo) e o r _ fun v H2 s2 m2 => tg _ H2 v ρ σ m2 (Rz.same r s2) _ fun σ' r' _ kk => k σ' H2 ⟨s.trans s2, p, n, by rw [kk j (hj j rfl)]; exact e, o.same s2, r'⟩
/-- for target in list -/
theorem s_for {α : Type} (enc : α → D) (ts : List α) (hd : Dom O H0) (h : EvW w tl ρ (.lst (ts.map enc))) (R : Nat → Env) (W : Nat → Own) (P : Nat → Prop) (f : α → Env → Env) (js : List Nat)
    (tg : ∀ t, t ∈ ts → TgOk K g (enc t) (f t) js) (hj : ∀ n i, wslot (W n) = some i → i ∉ js) (r0 : R 0 = ρ) (w0 : W 0 = w) (p0 : P 0)
    (hs : ∀ Hb, Same H0 Hb → Dom O Hb → ∀ i t, ts[i]? = some t → P i → ∀ σ H, At O Hb (f t (R i)) (W i) σ H →
      tb { D' with nx := fun σ H => P (i + 1) ∧ At O Hb (R (i + 1)) (W (i + 1)) σ H, ct := fun σ H => P (i + 1) ∧ At O Hb (R (i + 1)) (W (i + 1)) σ H, bk := D'.nx } σ H)
    (hn : P ts.length → ∀ σ H, At O H0 (R ts.length) (W ts.length) σ H → D'.nx σ H) (a : At O H0 ρ w σ H) : tFor (iList K tl) g tb D' σ H := by
  refine s_forA hd h (fun Hb i σ H => P i ∧ At O Hb (R i) (W i) σ H) (fun Hb i σ H z => z.2.1) (fun Hb σ H _ _ z => ⟨p0, by rw [r0, w0]; exact z⟩) (fun Hb i d sb db hi v σ H z m => ?_) (fun Hb σ H sb db z => ?_) a
  · rw [List.getElem?_map] at hi
    cases q : ts[i]? with
    | none => rw [q] at hi; cases hi
    | some t =>
      rw [q] at hi
      have e : enc t = d := Option.some.inj hi
      subst e
      exact z.2.tgt m (tg t (List.mem_of_getElem? q)) (hj i) fun σ' a' => hs Hb sb db i t q z.1 σ' H a'
  · rw [List.length_map] at z
    exact hn z.1 σ H (z.2.rebase sb)
/-- for x in range(n) -/
theorem s_forR {ta : TA} {n : Nat} (hd : Dom O H0) (h : EvA ta ρ [.int (n : Int)]) (hn1 : n ≤ 100000) (R : Nat → Env) (W : Nat → Own) (P : Nat → Prop) (r0 : R 0 = ρ) (w0 : W 0 = w) (p0 : P 0) (hj : ∀ n, wslot (W n) ≠ some j)
    (hs : ∀ i, i < n → P i → ∀ σ H, At O H0 ((R i).set j (some (.int (i : Int)))) (W i) σ H →
      tb { D' with nx := fun σ H => P (i + 1) ∧ At O H0 (R (i + 1)) (W (i + 1)) σ H, ct := fun σ H => P (i + 1) ∧ At O H0 (R (i + 1)) (W (i + 1)) σ H, bk := D'.nx } σ H)
    (hn : P n → ∀ σ H, At O H0 (R n) (W n) σ H → D'.nx σ H) (a : At O H0 ρ w σ H) : tFor (iRng1 ta) (gName j) tb D' σ H := by
  obtain ⟨O', dm, r, o1, o2, ev, et, st, sn⟩ := a.use hd
  refine h O' σ H dm r _ fun vs H1 s1 m1 => ?_
  cases m1 with
  | cons m1 m2 =>
    cases m1
    cases m2
    refine ⟨(n : Int), rfl, by omega, by omega, ?_⟩
    have en : ((n : Int)).toNat = n := rfl
    rw [en]
    refine for_range (lo := 0) (n := n) (fun i σ H => P i ∧ At O H0 (R i) (W i) σ H) ⟨p0, by rw [r0, w0]; exact a.grow s1⟩ (fun i σ H hi z => ?_) (fun σ H z => hn z.1 σ H z.2)
    have e0 : (0 : Int) + (i : Int) = (i : Int) := Int.zero_add _
    rw [e0]
    obtain ⟨O2, dm2, r2, _, _, _, _, st2, _⟩ := z.2.use hd
    exact hs i hi z.1 _ _ (st2 j (.int i) (.int i) H (Same.refl H) (.int i) (hj i))
/-- for i, x in enumerate(list) -/
theorem s_forE {α : Type} {ta : TA} {j1 j2 : Nat} (enc : α → D) (ts : List α) (hd : Dom O H0) (h : EvA ta ρ [.lst (ts.map enc)]) (R : Nat → Env) (W : Nat → Own) (P : Nat → Prop)
    (hj1 : ∀ n, wslot (W n) ≠ some j1) (hj2 : ∀ n, wslot (W n) ≠ some j2) (r0 : R 0 = ρ) (w0 : W 0 = w) (p0 : P 0)
    (hs : ∀ Hb, Same H0 Hb → Dom O Hb → ∀ i t, ts[i]? = some t → P i → ∀ σ H, At O Hb (((R i).set j1 (some (.int (i : Int)))).set j2 (some (enc t))) (W i) σ H →
      tb { D' with nx := fun σ H => P (i + 1) ∧ At O Hb (R (i + 1)) (W (i + 1)) σ H, ct := fun σ H => P (i + 1) ∧ At O Hb (R (i + 1)) (W (i + 1)) σ H, bk := D'.nx } σ H)
    (hn : P ts.length → ∀ σ H, At O H0 (R ts.length) (W ts.length) σ H → D'.nx σ H) (a : At O H0 ρ w σ H) : tFor (iEnum K ta) (gTup K 2 (gCons (gName j1) (gCons (gName j2) gNil))) tb D' σ H := by
  have main : ∀ (Hb : Hp) (b : Addr) (xs : List V) (H1 : Hp), Same H0 Hb → Dom O Hb → At O Hb ρ w σ H1 → Hb b = some (.lst xs) → DmL O Hb xs (ts.map enc) → ∃ W : Nat → Nat → L2.St → Hp → Prop, (∃ m, W 0 m σ H1) ∧ ∀ i m σ H, W i m σ H →
      ((Ite K b).stop i H ∧ D'.nx σ H) ∨ ((Ite K b).go i H ∧ ∃ N : L2.St → Hp → Prop, (∀ σ' H', N σ' H' → ∃ m', m' < m ∧ W (i + 1) m' σ' H') ∧ ∀ x H', (Ite K b).yld i H x H' → (gTup K 2 (gCons (gName j1) (gCons (gName j2) gNil))) x σ H' fun σ2 H2 => tb { D' with nx := N, ct := N, bk := D'.nx } σ2 H2) := by
    intro Hb b xs H1 sb db ab eb rb
    have hl : xs.length = ts.length := by rw [rb.length, List.length_map]
    refine ⟨fun i m σ H => m = xs.length - i ∧ i ≤ xs.length ∧ P i ∧ At O Hb (R i) (W i) σ H, ⟨_, rfl, Nat.zero_le _, p0, by rw [r0, w0]; exact ab⟩, ?_⟩
    rintro i m σ H ⟨rfl, hi, pi, z⟩
    have sq : SqL K H b xs := SqL.of (z.1 _ _ eb)
    by_cases hlt : i < xs.length
    · refine .inr ⟨⟨xs, xs[i], sq, by simp [hlt]⟩, fun σ H => P (i + 1) ∧ At O Hb (R (i + 1)) (W (i + 1)) σ H, fun σ' H' z' => ⟨xs.length - (i + 1), by omega, rfl, hlt, z'.1, z'.2⟩, fun x H' y => ?_⟩
      obtain ⟨T, y, rfl, nT, rfl, hy⟩ := y
      obtain ⟨d, hd2, md⟩ := rb.getV (hy xs sq)
      rw [List.getElem?_map] at hd2
      cases q : ts[i]? with
      | none => rw [q] at hd2; cases hd2
      | some t =>
        rw [q] at hd2
        have e : enc t = d := Option.some.inj hd2
        subst e
        refine ⟨T, _, rfl, SqT.of upd_same, rfl, _, _, rfl, ?_⟩
        have z1 := z.grow (Same.new (o := HO.tup [V.int (i : Nat), y]) nT)
        obtain ⟨O2, dm2, r2, _, o22, _, _, st2, _⟩ := z1.use db
        have z2 := st2 j1 (.int (i : Nat)) (.int (i : Nat)) _ (Same.refl _) (.int _) (hj1 i)
        obtain ⟨O3, dm3, r3, _, o33, _, _, st3, _⟩ := z2.use db
        have my : Dm O3 (upd H T (HO.tup [V.int (i : Nat), y])) y (enc t) := Dm.kp (.same z1.1) o33 md
        have z3 := st3 j2 y (enc t) _ (Same.refl _) my (hj2 i)
        refine ⟨_, _, rfl, rfl, ?_⟩
        exact hs Hb sb db i t q pi _ _ z3
    · have e : i = xs.length := by omega
      subst e
      exact .inl ⟨⟨xs, sq, Nat.le_refl _⟩, hn (hl ▸ pi) σ H ((hl ▸ z).rebase sb)⟩
  cases w with
  | none =>
    obtain ⟨s, r⟩ := a
    refine h O σ H (hd.same s) r _ fun vs H1 s1 m1 => ?_
    cases m1 with
    | cons m1 m2 =>
      cases m2
      cases m1 with
      | lst n e k => exact ⟨_, _, rfl, SqL.of e, main H1 _ _ H1 (s.trans s1) (hd.same (s.trans s1)) ⟨Same.refl _, Rz.same r s1⟩ e k⟩
  | some jc =>
    obtain ⟨j, c⟩ := jc
    obtain ⟨s, p, n, e, o, r⟩ := a
    obtain ⟨ob, eo⟩ := o.some
    refine h _ σ H ((hd.same s).and eo) r _ fun vs H1 s1 m1 => ?_
    cases m1 with
    | cons m1 m2 =>
      cases m2
      cases m1 with
      | lst nn ee k =>
        rename_i b xs
        have sbb : Same H0 (fun b => if b = p then none else H1 b) := fun b u q => by
          show (if b = p then none else H1 b) = some u
          rw [if_neg (ne_of_none q n)]
          exact s1 _ _ (s _ _ q)
        have nb : ¬ b = p := fun z => nn (.inr z)
        refine ⟨b, xs, rfl, SqL.of ee, main (fun b => if b = p then none else H1 b) b xs H1 sbb (hd.same sbb) ⟨fun b u q => ?_, p, if_pos rfl, e, o.same s1, Rz.same r s1⟩ ?_ ?_⟩
        · by_cases hb : b = p
          · subst hb
            simp at q
          · have q2 : (if b = p then none else H1 b) = some u := q
            rw [if_neg hb] at q2
            exact q2
        · show (if b = p then none else H1 b) = some _
          rw [if_neg nb]
          exact ee
        · refine DmL.kp (.of fun b u q z => ?_) (fun b z => .inl (.inl z)) k
          show (if b = p then none else H1 b) = some u
          rw [if_neg fun y => q (.inr y)]
          exact z
/-- while, n turns -/
theorem s_while (n : Nat) (R : Nat → Env) (W : Nat → Own) (hd : Dom O H0) (r0 : R 0 = ρ) (w0 : W 0 = w) (ht : ∀ i, i < n → EvTW (W i) t (R i) true) (hf : EvTW (W n) t (R n) false)
    (hs : ∀ i, i < n → ∀ σ H, At O H0 (R i) (W i) σ H → tb { D' with nx := fun σ H => At O H0 (R (i + 1)) (W (i + 1)) σ H, ct := fun σ H => At O H0 (R (i + 1)) (W (i + 1)) σ H, bk := D'.nx } σ H)
    (hn : ∀ σ H, At O H0 (R n) (W n) σ H → D'.nx σ H) (a : At O H0 ρ w σ H) : tWhile t tb D' σ H := by
  refine ⟨fun m σ H => m ≤ n ∧ At O H0 (R (n - m)) (W (n - m)) σ H, ⟨n, Nat.le_refl _, by rw [Nat.sub_self, r0, w0]; exact a⟩, ?_⟩
  rintro m σ H ⟨hm, z⟩
  obtain ⟨O', dm, r, o1, o2, ev, et, st, sn⟩ := z.use hd
  cases m with
  | zero =>
    refine et hf _ fun H2 s2 => ?_
    exact hn σ H2 (z.grow s2)
  | succ m =>
    refine et (ht (n - (m + 1)) (by omega)) _ fun H2 s2 => ?_
    refine ⟨fun σ H => At O H0 (R (n - (m + 1) + 1)) (W (n - (m + 1) + 1)) σ H, fun σ' H' z' => ⟨m, Nat.lt_succ_self m, by omega, ?_⟩, hs _ (by omega) σ H2 (z.grow s2)⟩
    have e : n - (m + 1) + 1 = n - m := by omega
    rw [← e]
    exact z'
end
end Wt

/-! WtC3: comprehensions. -/
namespace Wt
open PySem PySem.Spec PyProof.Rows L2

def wipeE (ρ : Env) : List Nat → Env
  | [] => ρ
  | v :: vs => (wipeE ρ vs).set v none
theorem Rz.wipe {O : Mask} {ρ : Env} {σ : L2.St} {H : Hp} (h : Rz O ρ σ H) : ∀ js : List Nat, Rz O (wipeE ρ js) (L2.wipe σ js) H
  | [] => h
  | j :: js => (Rz.wipe h js).setN
theorem wipe_at : ∀ (js : List Nat) (σ : L2.St) (i : Nat), i ∈ js → i < σ.length → (L2.wipe σ js)[i]? = some none
  | [], σ, i, h, _ => by cases h
  | j :: js, σ, i, h, hi => by
    show ((L2.wipe σ js).set j none)[i]? = some none
    by_cases e : j = i
    · subst e
      rw [List.getElem?_set_self (by rw [wipe_length]; exact hi)]
    · rw [List.getElem?_set_ne e]
      exact wipe_at js σ i ((List.mem_cons.mp h).resolve_left fun z => e z.symm) hi
theorem wipe_eq {σ τ : L2.St} {js : List Nat} (hl : τ.length = σ.length) (h : ∀ i, i ∉ js → τ[i]? = σ[i]?) : L2.wipe τ js = L2.wipe σ js := by
  apply List.ext_getElem?
  intro i
  by_cases hi : i ∈ js
  · by_cases hs : i < σ.length
    · rw [wipe_at js σ i hi hs, wipe_at js τ i hi (by omega)]
    · rw [List.getElem?_eq_none (by rw [wipe_length]; omega), List.getElem?_eq_none (by rw [wipe_length]; omega)]
  · rw [wipe_out hi, wipe_out hi, h i hi]

section
variable {K : PySem.W.Frag} {ρ : Env} {te tl : TE} {tt : TT} {g : TG} {js : List Nat} {ds : List D}
/-- one turn -/
theorem lc_turn {O : Mask} {σ : L2.St} {H1 H' : Hp} {Dl : Addr} {v : V} {d ed : D} {b : Bool} {f : Env → Env} {acc : List D} (hd : Dom O H1) (hr : Rz O ρ σ H1) (nD : H1 Dl = none) (s : Same H1 H') {ys : List V} (e : H' Dl = some (.lst ys))
    (m : DmL (O.and Dl) H' ys acc) (mv : Dm (O.and Dl) H' v d) (tg : TgOk K g d f js) (hz : acc.length < 100000) (ht : EvT tt (f (wipeE ρ js)) b) (he : b = true → EvD te (f (wipeE ρ js)) ed) {N : Hp → Prop}
    (q1 : b = true → ∀ H5 zs, Same H1 H5 → H5 Dl = some (.lst zs) → DmL (O.and Dl) H5 zs (acc ++ [ed]) → N H5) (q0 : b = false → ∀ H5, Same H1 H5 → H5 Dl = some (.lst ys) → DmL (O.and Dl) H5 ys acc → N H5) :
    g v (L2.wipe σ js) H' fun σ2 H2 => L2.wipe σ2 js = L2.wipe σ js ∧ tt σ2 H2 fun b H3 =>
      if b = true then te σ2 H3 fun y H4 => ∃ acc, H4 Dl = some (.lst acc) ∧ acc.length < sizeLine ∧ N (upd H4 Dl (.lst (acc ++ [y]))) else N H3 := by
  have dm : Dom (O.and Dl) H' := (hd.same s).and e
  have rz : Rz (O.and Dl) (wipeE ρ js) (L2.wipe σ js) H' := ((Rz.fresh hr nD).same s).wipe js
  refine tg _ H' v _ _ mv rz _ fun σ2 r2 l2 k2 => ⟨?_, ?_⟩
  · have z : L2.wipe σ2 js = L2.wipe (L2.wipe σ js) js := wipe_eq l2 k2
    rw [z]
    exact wipe_eq (wipe_length σ js) fun i hi => wipe_out hi
  · refine ht _ σ2 H' dm r2 _ fun H3 s3 => ?_
    cases b with
    | false => exact q0 rfl H3 (s.trans s3) (s3 _ _ e) (m.same s3)
    | true =>
      show te σ2 H3 _
      refine he rfl _ σ2 H3 (dm.same s3) (Rz.same r2 s3) _ fun y H4 s4 m4 => ?_
      have e4 := s4 _ _ (s3 _ _ e)
      refine ⟨ys, e4, sz_lt (by rw [m.length]; exact hz), q1 rfl _ _ (fun c o q => ?_) upd_same (((m.same (s3.trans s4)).snoc m4).updO (.inr rfl))⟩
      rw [upd_ne (ne_of_none q nD)]
      exact s4 _ _ (s3 _ _ (s c o q))
theorem filter_take {α : Type} (c : α → Bool) (ts : List α) {i : Nat} {t : α} (h : ts[i]? = some t) : (ts.take (i + 1)).filter c = (ts.take i).filter c ++ (if c t = true then [t] else []) := by
  rw [List.take_add_one, h, List.filter_append]
  congr 1
  cases e : c t <;> simp [e]
/-- over a list -/
theorem en_lc {α : Type} (enc : α → D) (ts : List α) (f : α → Env → Env) (c : α → Bool) (ed : α → D) (h : EvD tl ρ (.lst (ts.map enc))) (hz : ts.length < 100000) (tg : ∀ t, t ∈ ts → TgOk K g (enc t) (f t) js)
    (ht : ∀ t, t ∈ ts → EvT tt (f t (wipeE ρ js)) (c t)) (he : ∀ t, t ∈ ts → c t = true → EvD te (f t (wipeE ρ js)) (ed t)) : EvN (tLc (iList K tl) g tt te js) ρ ((ts.filter c).map ed) := by
  intro O σ H hd hr Q q
  refine h O σ H hd hr _ fun v H1 s1 m1 => ?_
  cases m1 with
  | lst n e r =>
    rename_i a xs
    have hl : xs.length = ts.length := by rw [r.length, List.length_map]
    refine ⟨a, rfl, ⟨xs, SqL.of e⟩, fun Dl nD => lc_list (xs := xs) (fun i H' => ∃ ys, Same H1 H' ∧ H' Dl = some (.lst ys) ∧ DmL (O.and Dl) H' ys (((ts.take i).filter c).map ed)) ⟨[], Same.new nD, upd_same, .nil⟩ (fun i H' _ ⟨ys, z, _⟩ => SqL.of (z _ _ e)) (fun i x H' hi ⟨ys, sa, e1, m⟩ => ?_) (fun H' ⟨ys, sa, e1, m⟩ => ?_)⟩
    · obtain ⟨d, hd2, md⟩ := r.getV hi
      rw [List.getElem?_map] at hd2
      cases qt : ts[i]? with
      | none => rw [qt] at hd2; cases hd2
      | some t =>
        rw [qt] at hd2
        have ee : enc t = d := Option.some.inj hd2
        subst ee
        have mt := List.mem_of_getElem? qt
        have ft := filter_take c ts qt
        refine lc_turn (hd.same s1) (Rz.same hr s1) nD sa e1 m ((md.fresh nD).same sa) (tg t mt) (Nat.lt_of_le_of_lt ?_ hz) (ht t mt) (he t mt) (fun hc H5 zs s5 e5 m5 => ⟨zs, s5, e5, ?_⟩) (fun hc H5 s5 e5 m5 => ⟨ys, s5, e5, ?_⟩)
        · rw [List.length_map]
          exact Nat.le_trans (List.length_filter_le ..) (by rw [List.length_take]; exact Nat.min_le_right ..)
        · rw [ft, if_pos hc, List.map_append]
          exact m5
        · rw [ft, if_neg (by rw [hc]; decide), List.append_nil]
          exact m5
    · rw [hl, List.take_of_length_le (Nat.le_refl _)] at m
      exact q Dl ys H' (s1.free nD) (s1.trans sa) e1 m
/-- over a tuple -/
theorem en_lcT {α : Type} (enc : α → D) (ts : List α) (f : α → Env → Env) (c : α → Bool) (ed : α → D) (h : EvD tl ρ (.tup (ts.map enc))) (hz : ts.length < 100000) (tg : ∀ t, t ∈ ts → TgOk K g (enc t) (f t) js)
    (ht : ∀ t, t ∈ ts → EvT tt (f t (wipeE ρ js)) (c t)) (he : ∀ t, t ∈ ts → c t = true → EvD te (f t (wipeE ρ js)) (ed t)) : EvN (tLc (iTup K tl) g tt te js) ρ ((ts.filter c).map ed) := by
  intro O σ H hd hr Q q
  refine h O σ H hd hr _ fun v H1 s1 m1 => ?_
  cases m1 with
  | tup n e r =>
    rename_i a xs
    have hl : xs.length = ts.length := by rw [r.length, List.length_map]
    refine ⟨a, rfl, ⟨xs, SqT.of e⟩, fun Dl nD => lc_tup (xs := xs) (fun i H' => ∃ ys, Same H1 H' ∧ H' Dl = some (.lst ys) ∧ DmL (O.and Dl) H' ys (((ts.take i).filter c).map ed)) ⟨[], Same.new nD, upd_same, .nil⟩ (fun i H' _ ⟨ys, z, _⟩ => SqT.of (z _ _ e)) (fun i x H' hi ⟨ys, sa, e1, m⟩ => ?_) (fun H' ⟨ys, sa, e1, m⟩ => ?_)⟩
    · obtain ⟨d, hd2, md⟩ := r.getV hi
      rw [List.getElem?_map] at hd2
      cases qt : ts[i]? with
      | none => rw [qt] at hd2; cases hd2
      | some t =>
        rw [qt] at hd2
        have ee : enc t = d := Option.some.inj hd2
        subst ee
        have mt := List.mem_of_getElem? qt
        have ft := filter_take c ts qt
        refine lc_turn (hd.same s1) (Rz.same hr s1) nD sa e1 m ((md.fresh nD).same sa) (tg t mt) (Nat.lt_of_le_of_lt ?_ hz) (ht t mt) (he t mt) (fun hc H5 zs s5 e5 m5 => ⟨zs, s5, e5, ?_⟩) (fun hc H5 s5 e5 m5 => ⟨ys, s5, e5, ?_⟩)
        · rw [List.length_map]
          exact Nat.le_trans (List.length_filter_le ..) (by rw [List.length_take]; exact Nat.min_le_right ..)
        · rw [ft, if_pos hc, List.map_append]
          exact m5
        · rw [ft, if_neg (by rw [hc]; decide), List.append_nil]
          exact m5
    · rw [hl, List.take_of_length_le (Nat.le_refl _)] at m
      exact q Dl ys H' (s1.free nD) (s1.trans sa) e1 m
/-- over range(n) -/
theorem en_lcR {ta : TA} {j n : Nat} (c : Nat → Bool) (ed : Nat → D) (h : EvA ta ρ [.int (n : Int)]) (hz : n < 100000)
    (ht : ∀ i, i < n → EvT tt ((wipeE ρ [j]).set j (some (.int (i : Int)))) (c i)) (he : ∀ i, i < n → c i = true → EvD te ((wipeE ρ [j]).set j (some (.int (i : Int)))) (ed i)) : EvN (tLc (iRng1 ta) (gName j) tt te [j]) ρ (((List.range n).filter c).map ed) := by
  intro O σ H hd hr Q q
  refine h O σ H hd hr _ fun vs H1 s1 m1 => ?_
  cases m1 with
  | cons m1 m2 =>
    cases m1
    cases m2
    refine ⟨(n : Int), rfl, by omega, by omega, fun Dl nD => ?_⟩
    have en : ((n : Int)).toNat = n := rfl
    rw [en]
    refine lc_range (lo := 0) (n := n) (fun i H' => ∃ ys, Same H1 H' ∧ H' Dl = some (.lst ys) ∧ DmL (O.and Dl) H' ys (((List.range i).filter c).map ed)) ⟨[], Same.new nD, upd_same, .nil⟩ (fun i H' hi ⟨ys, sa, e1, m⟩ => ?_) (fun H' ⟨ys, sa, e1, m⟩ => ?_)
    · have e0 : (0 : Int) + (i : Int) = (i : Int) := Int.zero_add _
      rw [e0]
      refine lc_turn (K := []) (f := fun ρ => ρ.set j (some (.int (i : Int)))) (hd.same s1) (Rz.same hr s1) nD sa e1 m (.int (i : Int)) tg_name (Nat.lt_of_le_of_lt ?_ hz) (ht i hi) (he i hi) (fun hc H5 zs s5 e5 m5 => ⟨zs, s5, e5, ?_⟩) (fun hc H5 s5 e5 m5 => ⟨ys, s5, e5, ?_⟩)
      · rw [List.length_map]
        exact Nat.le_trans (List.length_filter_le ..) (by rw [List.length_range]; exact Nat.le_of_lt hi)
      · rw [List.range_succ, List.filter_append, List.map_append]
        simpa [hc] using m5
      · rw [List.range_succ, List.filter_append, List.map_append]
        simpa [hc] using m5
    · exact q Dl ys H' (s1.free nD) (s1.trans sa) e1 m
end
end Wt

/-! WtD: operators and built-ins over plain data. -/
namespace Wt
open PySem PySem.Spec PyProof.Rows L2

section
variable {K : PySem.W.Frag} {x y z d : D} {ds es : List D} {i j : Int} {a b : Str} {ss : List Str}
theorem rd_ii {g : Int → Int → Int} : RD (rI0 fun i j => .int (g i j)) (.int i) (.int j) (.int (g i j)) := fun O H vx vy hd h1 h2 Q q => by
  cases h1
  cases h2
  exact ⟨i, j, rfl, rfl, q _ H (Same.refl H) (.int _)⟩
theorem rd_ib {g : Int → Int → Bool} : RD (rI0 fun i j => .bl (g i j)) (.int i) (.int j) (.bl (g i j)) := fun O H vx vy hd h1 h2 Q q => by
  cases h1
  cases h2
  exact ⟨i, j, rfl, rfl, q _ H (Same.refl H) (.bl _)⟩
theorem rd_ic {C : Int → Int → Prop} {g : Int → Int → Int} (hc : C i j) : RD (rI C fun i j => .int (g i j)) (.int i) (.int j) (.int (g i j)) := fun O H vx vy hd h1 h2 Q q => by
  cases h1
  cases h2
  exact ⟨i, j, rfl, rfl, hc, q _ H (Same.refl H) (.int _)⟩
abbrev rAddS : R2 := fun x y H Q => ∃ i j, x = .str i ∧ y = .str j ∧ i.length + j.length ≤ sizeLine ∧ Q (.str (i ++ j)) H
theorem rd_addS (h : a.length + b.length ≤ 16000000) : RD rAddS (.str a) (.str b) (.str (a ++ b)) := fun O H vx vy hd h1 h2 Q q => by
  cases h1
  cases h2
  exact ⟨a, b, rfl, rfl, Nat.le_trans h (by rw [sizeLine_eq]; decide), q _ H (Same.refl H) (.str _)⟩
theorem rd_eqS : RD rEq (.str a) (.str b) (.bl (decide (a = b))) := fun O H vx vy hd h1 h2 Q q => by
  cases h1
  cases h2
  refine ⟨rfl, q _ H (Same.refl H) ?_⟩
  have e : decide (V.str a = V.str b) = decide (a = b) := decide_eq_decide.mpr ⟨fun z => V.str.inj z, fun z => congrArg _ z⟩
  rw [e]
  exact .bl _
theorem rd_neS : RD rNe (.str a) (.str b) (.bl (!decide (a = b))) := fun O H vx vy hd h1 h2 Q q => by
  cases h1
  cases h2
  refine ⟨rfl, q _ H (Same.refl H) ?_⟩
  have e : decide (V.str a = V.str b) = decide (a = b) := decide_eq_decide.mpr ⟨fun z => V.str.inj z, fun z => congrArg _ z⟩
  rw [e]
  exact .bl _
theorem rd_eqI : RD rEq (.int i) (.int j) (.bl (decide (i = j))) := fun O H vx vy hd h1 h2 Q q => by
  cases h1
  cases h2
  refine ⟨rfl, q _ H (Same.refl H) ?_⟩
  have e : decide (V.int i = V.int j) = decide (i = j) := decide_eq_decide.mpr ⟨fun z => V.int.inj z, fun z => congrArg _ z⟩
  rw [e]
  exact .bl _
theorem rd_eqB {i j : Bool} : RD rEq (.bl i) (.bl j) (.bl (decide (i = j))) := fun O H vx vy hd h1 h2 Q q => by
  cases h1
  cases h2
  refine ⟨rfl, q _ H (Same.refl H) ?_⟩
  have e : decide (V.bl i = V.bl j) = decide (i = j) := decide_eq_decide.mpr ⟨fun z => V.bl.inj z, fun z => congrArg _ z⟩
  rw [e]
  exact .bl _
theorem rd_neB {i j : Bool} : RD rNe (.bl i) (.bl j) (.bl (!decide (i = j))) := fun O H vx vy hd h1 h2 Q q => by
  cases h1
  cases h2
  refine ⟨rfl, q _ H (Same.refl H) ?_⟩
  have e : decide (V.bl i = V.bl j) = decide (i = j) := decide_eq_decide.mpr ⟨fun z => V.bl.inj z, fun z => congrArg _ z⟩
  rw [e]
  exact .bl _
/-- data of any depth -/
theorem rd_eqD (hx : x.pl = true) (hy : y.pl = true) (sx : SeqAt.shaped x.py = true) (sy : SeqAt.shaped y.py = true) {c : Bool} (e : PyData.eqv x.py y.py = c) : RD (rEqD K) x y (.bl c) := fun O H vx vy hd h1 h2 Q q =>
  ⟨x.py, y.py, h1.dp hx, h2.dp hy, sx, sy, by rw [e]; exact q _ H (Same.refl H) (.bl _)⟩
theorem rd_neD (hx : x.pl = true) (hy : y.pl = true) (sx : SeqAt.shaped x.py = true) (sy : SeqAt.shaped y.py = true) {c : Bool} (e : PyData.eqv x.py y.py = c) : RD (rNeD K) x y (.bl (!c)) := fun O H vx vy hd h1 h2 Q q =>
  ⟨x.py, y.py, h1.dp hx, h2.dp hy, sx, sy, by rw [e]; exact q _ H (Same.refl H) (.bl _)⟩
theorem rd_inD (hx : x.pl = true) (hy : D.plL ds = true) (sx : SeqAt.shaped x.py = true) (sy : SeqAt.shaped (.list (D.pyL ds)) = true) {c : Bool} (e : ((D.pyL ds).any fun z => PyData.eqv z x.py) = c) : RD (rInD K) x (.lst ds) (.bl c) := fun O H vx vy hd h1 h2 Q q =>
  ⟨x.py, D.pyL ds, h1.dp hx, by have := h2.dp (K := K) (by unfold D.pl; exact hy); unfold D.py at this; exact this, sx, sy, by rw [e]; exact q _ H (Same.refl H) (.bl _)⟩
theorem rd_notInD (hx : x.pl = true) (hy : D.plL ds = true) (sx : SeqAt.shaped x.py = true) (sy : SeqAt.shaped (.list (D.pyL ds)) = true) {c : Bool} (e : ((D.pyL ds).any fun z => PyData.eqv z x.py) = c) : RD (rNotInD K) x (.lst ds) (.bl (!c)) := fun O H vx vy hd h1 h2 Q q =>
  ⟨x.py, D.pyL ds, h1.dp hx, by have := h2.dp (K := K) (by unfold D.pl; exact hy); unfold D.py at this; exact this, sx, sy, by rw [e]; exact q _ H (Same.refl H) (.bl _)⟩
/-- a text in a list, a tuple of texts -/
theorem eqV_str (x y : Str) : eqV (V.str x) (V.str y) = decide (x = y) := by
  show (x == y) = decide (x = y)
  exact Bool.beq_eq_decide_eq ..
theorem inV_strs (a : Str) : ∀ ss : List Str, inV (.str a) (ss.map V.str) = decide (a ∈ ss)
  | [] => rfl
  | s :: r => by
    show (eqV (V.str s) (.str a) || inV (.str a) (r.map V.str)) = _
    rw [inV_strs a r, eqV_str]
    by_cases h : s = a
    · subst h; simp
    · have h' : ¬ a = s := fun z => h z.symm
      simp [h, h']
theorem flat_strs : ∀ ss : List Str, (ss.map V.str).all flatV = true
  | [] => rfl
  | s :: r => flat_strs r
theorem rd_inL : RD (rIn K false) (.str a) (.lst (ss.map .str)) (.bl (decide (a ∈ ss))) := fun O H vx vy hd h1 h2 Q q => by
  cases h1
  cases h2 with
  | lst n e r =>
    have er := r.strs
    subst er
    refine ⟨_, _, rfl, .inl (SqL.of e), rfl, flat_strs ss, ?_⟩
    rw [inV_strs]
    exact q _ H (Same.refl H) (.bl _)
theorem rd_notInL : RD (rIn K true) (.str a) (.lst (ss.map .str)) (.bl (!decide (a ∈ ss))) := fun O H vx vy hd h1 h2 Q q => by
  cases h1
  cases h2 with
  | lst n e r =>
    have er := r.strs
    subst er
    refine ⟨_, _, rfl, .inl (SqL.of e), rfl, flat_strs ss, ?_⟩
    rw [inV_strs]
    exact q _ H (Same.refl H) (.bl _)
theorem rd_inT : RD (rIn K false) (.str a) (.tup (ss.map .str)) (.bl (decide (a ∈ ss))) := fun O H vx vy hd h1 h2 Q q => by
  cases h1
  cases h2 with
  | tup n e r =>
    have er := r.strs
    subst er
    refine ⟨_, _, rfl, .inr (SqT.of e), rfl, flat_strs ss, ?_⟩
    rw [inV_strs]
    exact q _ H (Same.refl H) (.bl _)
theorem rd_notInT : RD (rIn K true) (.str a) (.tup (ss.map .str)) (.bl (!decide (a ∈ ss))) := fun O H vx vy hd h1 h2 Q q => by
  cases h1
  cases h2 with
  | tup n e r =>
    have er := r.strs
    subst er
    refine ⟨_, _, rfl, .inr (SqT.of e), rfl, flat_strs ss, ?_⟩
    rw [inV_strs]
    exact q _ H (Same.refl H) (.bl _)
theorem eqV_int (x y : Int) : eqV (V.int x) (V.int y) = decide (x = y) := by
  show (x == y) = decide (x = y)
  exact Bool.beq_eq_decide_eq ..
theorem inV_ints (a : Int) : ∀ ss : List Int, inV (.int a) (ss.map V.int) = decide (a ∈ ss)
  | [] => rfl
  | s :: r => by
    show (eqV (V.int s) (.int a) || inV (.int a) (r.map V.int)) = _
    rw [inV_ints a r, eqV_int]
    by_cases h : s = a
    · subst h; simp
    · have h' : ¬ a = s := fun z => h z.symm
      simp [h, h']
theorem flat_ints : ∀ ss : List Int, (ss.map V.int).all flatV = true
  | [] => rfl
  | s :: r => flat_ints r
theorem rd_inTI {is : List Int} : RD (rIn K false) (.int i) (.tup (is.map .int)) (.bl (decide (i ∈ is))) := fun O H vx vy hd h1 h2 Q q => by
  cases h1
  cases h2 with
  | tup n e r =>
    have er := r.ints
    subst er
    refine ⟨_, _, rfl, .inr (SqT.of e), rfl, flat_ints is, ?_⟩
    rw [inV_ints]
    exact q _ H (Same.refl H) (.bl _)
/-- a sign in a text -/
theorem rd_inS {c : Nat} : RD rInS (.str ⟨#[c]⟩) (.str b) (.bl (decide (c ∈ b.cps.toList))) := fun O H vx vy hd h1 h2 Q q => by
  cases h1
  cases h2
  exact ⟨c, b, rfl, rfl, q _ H (Same.refl H) (.bl _)⟩
/-- items -/
theorem rd_ixL (e : atI ds i = some d) : RD (rIxL K) (.lst ds) (.int i) d := fun O H vx vy hd h1 h2 Q q => by
  cases h2
  cases h1 with
  | lst n eh r =>
    obtain ⟨v, e1, m⟩ := r.at e
    exact ⟨_, _, i, v, rfl, rfl, SqL.of eh, e1, q v H (Same.refl H) m⟩
theorem rd_ixT (e : atI ds i = some d) : RD (rIxT K) (.tup ds) (.int i) d := fun O H vx vy hd h1 h2 Q q => by
  cases h2
  cases h1 with
  | tup n eh r =>
    obtain ⟨v, e1, m⟩ := r.at e
    exact ⟨_, _, i, v, rfl, rfl, SqT.of eh, e1, q v H (Same.refl H) m⟩
theorem rd_ixS {c : Nat} (hl : a.length ≤ 16000000) (e : atI a.cps.toList i = some c) : RD rIxS (.str a) (.int i) (.str ⟨#[c]⟩) := fun O H vx vy hd h1 h2 Q q => by
  cases h2
  cases h1
  exact ⟨a, i, c, rfl, rfl, Nat.le_trans hl (by rw [sizeLine_eq]; decide), e, q _ H (Same.refl H) (.str _)⟩
theorem sz_le {n : Nat} (h : n ≤ 100000) : n ≤ sizeLine := Nat.le_trans h (by decide)
theorem rn_cat (h : ds.length + es.length ≤ 100000) : RN rCat (.lst ds) (.lst es) (ds ++ es) := fun O H vx vy hd h1 h2 Q q => by
  cases h1 with
  | lst n1 e1 r1 =>
    cases h2 with
    | lst n2 e2 r2 => exact ⟨_, _, _, _, rfl, rfl, e1, e2, sz_le (by rw [r1.length, r2.length]; exact h), fun p n => q p _ _ n (Same.new n) upd_same (((r1.append r2).fresh n).new n)⟩
theorem DmL.rep {O : Mask} {H : Hp} {vs : List V} (h : DmL O H vs ds) : ∀ k : Nat, DmL O H (List.replicate k vs).flatten (List.replicate k ds).flatten
  | 0 => .nil
  | k + 1 => by
    rw [List.replicate_succ, List.flatten_cons, List.replicate_succ, List.flatten_cons]
    exact h.append (h.rep k)
theorem rn_rep {k : Nat} (h : ds.length * k ≤ 100000) (hk : k ≤ 100000) : RN rRep (.lst ds) (.int (k : Int)) (List.replicate k ds).flatten := fun O H vx vy hd h1 h2 Q q => by
  cases h2
  cases h1 with
  | lst n1 e1 r1 => exact ⟨_, (k : Int), _, rfl, rfl, e1, by omega, by omega, sz_le (by rw [r1.length]; exact h), fun p n => q p _ _ n (Same.new n) upd_same ((DmL.fresh (r1.rep k) n).new n)⟩
theorem rd_catT (h : ds.length + es.length ≤ 100000) : RD (rCatA K) (.tup ds) (.tup es) (.tup (ds ++ es)) := fun O H vx vy hd h1 h2 Q q => by
  have h1' := h1
  have h2' := h2
  cases h1 with
  | tup n1 e1 r1 =>
    cases h2 with
    | tup n2 e2 r2 =>
      refine ⟨_, _, _, _, rfl, rfl, SqT.of e1, SqT.of e2, sz_le (by rw [r1.length, r2.length]; exact h), fun z => ?_, fun _ z => ?_, fun _ _ p n => q _ _ (Same.new n) (.tup (hd.not n) upd_same ((r1.append r2).new n))⟩
      · subst z
        cases r1
        exact q _ H (Same.refl H) h2'
      · subst z
        cases r2
        exact q _ H (Same.refl H) (by rw [List.append_nil]; exact h1')

/-! built-ins -/
abbrev cInt : List V → Hp → VK → Prop := fun xs H Q => (∃ i, xs = [.int i] ∧ Q (.int i) H) ∨ ∃ k, xs = [.bl k] ∧ Q (.int (if k then 1 else 0)) H
theorem cd_intB {b : Bool} : CD cInt [.bl b] (.int (if b then 1 else 0)) := fun O H vs hd h Q q => by
  cases h with
  | cons h1 h2 =>
    cases h1
    cases h2
    exact .inr ⟨b, rfl, q _ H (Same.refl H) (.int _)⟩
abbrev cLen (K : PySem.W.Frag) : List V → Hp → VK → Prop := fun xs H Q => ∃ p ys, xs = [.ref p] ∧ (SqL K H p ys ∨ SqT K H p ys) ∧ Q (.int ys.length) H
theorem cd_lenL : CD (cLen K) [.lst ds] (.int (ds.length : Int)) := fun O H vs hd h Q q => by
  cases h with
  | cons h1 h2 =>
    cases h2
    cases h1 with
    | lst n e r => exact ⟨_, _, rfl, .inl (SqL.of e), by rw [r.length]; exact q _ H (Same.refl H) (.int _)⟩
theorem cd_lenT : CD (cLen K) [.tup ds] (.int (ds.length : Int)) := fun O H vs hd h Q q => by
  cases h with
  | cons h1 h2 =>
    cases h2
    cases h1 with
    | tup n e r => exact ⟨_, _, rfl, .inr (SqT.of e), by rw [r.length]; exact q _ H (Same.refl H) (.int _)⟩
abbrev cList (K : PySem.W.Frag) : List V → Hp → VK → Prop := fun xs H Q => ∃ p ys, xs = [.ref p] ∧ (SqL K H p ys ∨ SqT K H p ys) ∧ ∀ l, H l = none → Q (.ref l) (upd H l (.lst ys))
theorem cn_listL : CN (cList K) [.lst ds] ds := fun O H vs hd h Q q => by
  cases h with
  | cons h1 h2 =>
    cases h2
    cases h1 with
    | lst n e r => exact ⟨_, _, rfl, .inl (SqL.of e), fun l n => q l _ _ n (Same.new n) upd_same ((DmL.fresh r n).new n)⟩
theorem cn_listT : CN (cList K) [.tup ds] ds := fun O H vs hd h Q q => by
  cases h with
  | cons h1 h2 =>
    cases h2
    cases h1 with
    | tup n e r => exact ⟨_, _, rfl, .inr (SqT.of e), fun l n => q l _ _ n (Same.new n) upd_same ((DmL.fresh r n).new n)⟩
abbrev cTup (K : PySem.W.Frag) : List V → Hp → VK → Prop := fun xs H Q => ∃ p ys, xs = [.ref p] ∧ ((SqL K H p ys ∧ ∀ l, H l = none → Q (.ref l) (upd H l (.tup ys))) ∨ (SqT K H p ys ∧ Q (.ref p) H))
theorem cd_tupL : CD (cTup K) [.lst ds] (.tup ds) := fun O H vs hd h Q q => by
  cases h with
  | cons h1 h2 =>
    cases h2
    cases h1 with
    | lst n e r => exact ⟨_, _, rfl, .inl ⟨SqL.of e, fun l n => q _ _ (Same.new n) (.tup (hd.not n) upd_same (r.new n))⟩⟩
theorem cd_any {bs : List Bool} : CD (rAny K) [.lst (bs.map .bl)] (.bl (bs.any id)) := fun O H vs hd h Q q => by
  cases h with
  | cons h1 h2 =>
    cases h2
    cases h1 with
    | lst n e r =>
      have er := r.bls
      subst er
      exact ⟨_, bs, rfl, SqL.of e, q _ H (Same.refl H) (.bl _)⟩
theorem cd_all {bs : List Bool} : CD (rAll K) [.lst (bs.map .bl)] (.bl (bs.all id)) := fun O H vs hd h Q q => by
  cases h with
  | cons h1 h2 =>
    cases h2
    cases h1 with
    | lst n e r =>
      have er := r.bls
      subst er
      exact ⟨_, bs, rfl, SqL.of e, q _ H (Same.refl H) (.bl _)⟩
/-! sorted -/
theorem lt_cps (a b : Str) : Spec.ltCps a.cps.toList b.cps.toList = decide (a.cps.toList < b.cps.toList) := ltCps_eq _ _
def sle (a b : Str) : Prop := ¬ b.cps.toList < a.cps.toList
theorem sle_trans {a b c : Str} (h1 : sle a b) (h2 : sle b c) : sle a c := by
  have h1' : a.cps.toList ≤ b.cps.toList := h1
  have h2' : b.cps.toList ≤ c.cps.toList := h2
  exact List.le_trans h1' h2'
theorem sle_antisymm {a b : Str} (h1 : sle a b) (h2 : sle b a) : a = b := by
  have h1' : a.cps.toList ≤ b.cps.toList := h1
  have h2' : b.cps.toList ≤ a.cps.toList := h2
  have e := List.le_antisymm h1' h2'
  cases a
  cases b
  simpa using e
theorem rising_pw : ∀ (p : Str) (l : List Str), risingS p l = true → (p :: l).Pairwise sle
  | p, [], _ => by simp
  | p, x :: r, h => by
    have h2 : (!Spec.ltCps x.cps.toList p.cps.toList && risingS x r) = true := h
    obtain ⟨h3, h4⟩ := Bool.and_eq_true_iff.mp h2
    have ih := rising_pw x r h4
    have px : sle p x := by
      rw [lt_cps] at h3
      simpa [sle] using h3
    refine List.pairwise_cons.mpr ⟨fun y hy => ?_, ih⟩
    rcases List.mem_cons.mp hy with rfl | hy
    · exact px
    · exact sle_trans px ((List.pairwise_cons.mp ih).1 y hy)
theorem sorted_pw {l : List Str} (h : sortedS l = true) : l.Pairwise sle := by
  cases l with
  | nil => exact .nil
  | cons p r => exact rising_pw p r h
theorem sorted_uniq : ∀ {l m : List Str}, l.Pairwise sle → m.Pairwise sle → l.Perm m → l = m
  | [], m, _, _, p => (List.nil_perm.mp p).symm
  | a :: l, [], _, _, p => absurd p.length_eq (by simp)
  | a :: l, b :: m, h1, h2, p => by
    have hab : a = b := by
      have ha : a ∈ b :: m := p.mem_iff.mp (List.mem_cons_self ..)
      have hb : b ∈ a :: l := p.mem_iff.mpr (List.mem_cons_self ..)
      rcases List.mem_cons.mp ha with e | ha
      · exact e
      rcases List.mem_cons.mp hb with e | hb
      · exact e.symm
      exact sle_antisymm ((List.pairwise_cons.mp h1).1 b hb) ((List.pairwise_cons.mp h2).1 a ha)
    subst hab
    rw [sorted_uniq (List.pairwise_cons.mp h1).2 (List.pairwise_cons.mp h2).2 (List.Perm.cons_inv p)]
open Classical in
noncomputable def srt (xs : List Str) : List Str := if h : ∃ ys : List Str, ys.Perm xs ∧ ys.Pairwise sle then h.choose else xs
theorem srt_eq {xs ys : List Str} (p : ys.Perm xs) (s : ys.Pairwise sle) : srt xs = ys := by
  have h : ∃ ys : List Str, ys.Perm xs ∧ ys.Pairwise sle := ⟨ys, p, s⟩
  unfold srt
  rw [dif_pos h]
  exact sorted_uniq h.choose_spec.2 s (h.choose_spec.1.trans p.symm)
theorem cn_sorted (hl : ss.length < 64) : CN (rSortedS K) [.lst (ss.map .str)] ((srt ss).map .str) := fun O H vs hd h Q q => by
  cases h with
  | cons h1 h2 =>
    cases h2
    cases h1 with
    | lst n e r =>
      have er := r.strs
      subst er
      refine ⟨_, ss, rfl, SqL.of e, hl, fun ys p pm so n => q p _ _ n (Same.new n) upd_same ?_⟩
      rw [srt_eq pm (sorted_pw so)]
      exact DmL.ofStrs ys
/-! dict(pairs) -/
def mergeD (kvs more : List (Str × D)) : List (Str × D) := more.foldl (fun acc kv => putD acc kv.1 kv.2) kvs
def pairD (kv : Str × D) : D := .tup [.str kv.1, kv.2]
theorem DmK.merge {O : Mask} {H : Hp} : ∀ {more : List (Str × D)} {kvs : List (Str × D)} {rs vs : List (Key × V)}, DmK O H vs kvs → DmK O H rs more → DmK O H (mergeK vs rs) (mergeD kvs more)
  | _, _, _, _, h, .nil => h
  | _, kvs, _, vs, h, .cons (s := s) (v := v) (d := d) (vs := rs) (ds := more) m r => DmK.merge (more := more) (kvs := putD kvs s d) (rs := rs) (vs := putK vs (Sum.inr s) v) (h.put s m) r
theorem pairs_of {O : Mask} {H : Hp} {K : PySem.W.Frag} : ∀ {kvs : List (Str × D)} {xs : List V}, DmL O H xs (kvs.map pairD) → ∃ (ps : List Addr) (rs : List (Key × V)), xs = ps.map V.ref ∧ Paired (fun p kv => SqT K H p [kV kv.1, kv.2]) ps rs ∧ DmK O H rs kvs
  | [], _, h => by
    cases h
    exact ⟨[], [], rfl, .nil, .nil⟩
  | kv :: r, _, h => by
    obtain ⟨k, d⟩ := kv
    cases h with
    | cons h1 h2 =>
      obtain ⟨ps, rs, e1, e2, e3⟩ := pairs_of (K := K) h2
      cases h1 with
      | tup n e q =>
        rename_i a ws
        cases q with
        | cons q1 q2 =>
          cases q1
          cases q2 with
          | cons q3 q4 =>
            cases q4
            rename_i v
            exact ⟨a :: ps, (Sum.inr k, v) :: rs, by rw [e1]; rfl, .cons (SqT.of e) e2, .cons q3 e3⟩
abbrev cDict (K : PySem.W.Frag) : List V → Hp → VK → Prop := fun xs H Q => ∃ (a : Addr) (ps : List Addr) (kvs : List (Key × V)), xs = [.ref a] ∧ SqL K H a (ps.map V.ref) ∧ Paired (fun p kv => SqT K H p [kV kv.1, kv.2]) ps kvs ∧
    ∀ p, H p = none → Q (.ref p) (upd H p (.dK (mergeK [] kvs)))
theorem DmK.new {O : Mask} {H : Hp} {p : Addr} {o : HO} {vs : List (Key × V)} {ds : List (Str × D)} (h : DmK O H vs ds) (n : H p = none) : DmK O (upd H p o) vs ds := h.same (Same.new n)
theorem cm_dict {kvs : List (Str × D)} : CM (cDict K) [.lst (kvs.map pairD)] (mergeD [] kvs) := fun O H vs hd h Q q => by
  cases h with
  | cons h1 h2 =>
    cases h2
    cases h1 with
    | lst n e r =>
      obtain ⟨ps, rs, e1, e2, e3⟩ := pairs_of (K := K) r
      subst e1
      exact ⟨_, ps, rs, rfl, SqL.of e, e2, fun p n => q p _ _ n (Same.new n) upd_same (((DmK.merge .nil e3).fresh n).new n)⟩
/-- keys that differ: the pairs as they stand -/
theorem putD_new {kvs : List (Str × D)} {k : Str} {d : D} (h : k ∉ kvs.map (·.1)) : putD kvs k d = kvs ++ [(k, d)] := by
  unfold putD
  rw [if_neg]
  intro z
  obtain ⟨p, hp, e⟩ := List.any_eq_true.mp z
  exact h (List.mem_map.mpr ⟨p, hp, of_decide_eq_true e⟩)
theorem mergeD_nodup : ∀ (more kvs : List (Str × D)), ((kvs ++ more).map (·.1)).Nodup → mergeD kvs more = kvs ++ more
  | [], kvs, _ => (List.append_nil _).symm
  | (k, d) :: r, kvs, h => by
    show mergeD (putD kvs k d) r = _
    have hk : k ∉ kvs.map (·.1) := by
      intro m
      rw [List.map_append, List.nodup_append] at h
      exact h.2.2 k m k (by simp) rfl
    rw [putD_new hk, mergeD_nodup r (kvs ++ [(k, d)]) (by rw [List.append_assoc]; exact h), List.append_assoc]
    rfl
/-! join, slices -/
abbrev cJoin (K : PySem.W.Frag) : V → List V → Hp → VK → Prop := fun x xs H Q => ∃ a p, ∃ ys : List Str, x = .str a ∧ xs = [.ref p] ∧ (SqL K H p (ys.map V.str) ∨ SqT K H p (ys.map V.str)) ∧
      (ys.map (·.length)).sum + ys.length * a.length ≤ 16777216 ∧ Q (.str (Txt.join a ys)) H
theorem ev_join {ρ : Env} {to te : TE} (ho : EvD to ρ (.str a)) (h : EvD te ρ (.lst (ss.map .str))) (hl : (ss.map (·.length)).sum + ss.length * a.length ≤ 16777216) : EvD (tM1 (cJoin K) to te) ρ (.str (Txt.join a ss)) := fun O σ H hd hz Q q =>
  ho O σ H hd hz _ fun v H1 s1 m1 => by
    cases m1
    refine ⟨⟨a, rfl⟩, h O σ H1 (hd.same s1) (hz.same s1) _ fun w H2 s2 m2 => ?_⟩
    cases m2 with
    | lst n e r =>
      have er := r.strs
      subst er
      exact ⟨a, _, ss, rfl, rfl, .inl (SqL.of e), hl, q _ H2 (s1.trans s2) (.str _)⟩
theorem DmL.drop {O : Mask} {H : Hp} : ∀ {vs : List V} {ds : List D} (k : Nat), DmL O H vs ds → DmL O H (vs.drop k) (ds.drop k)
  | _, _, 0, h => h
  | _, _, _ + 1, .nil => .nil
  | _, _, k + 1, .cons _ r => r.drop k
theorem DmL.take {O : Mask} {H : Hp} : ∀ {vs : List V} {ds : List D} (k : Nat), DmL O H vs ds → DmL O H (vs.take k) (ds.take k)
  | _, _, 0, _ => .nil
  | _, _, _ + 1, .nil => .nil
  | _, _, k + 1, .cons h r => .cons h (r.take k)
/-- xs[:-1] -/
theorem en_init {ρ : Env} {te tc : TE} (h : EvD te ρ (.lst ds)) (hc : EvD tc ρ (.int (-1))) : EvN (tSl (rSlL K) te tNoPart (tPart tc)) ρ ds.dropLast := fun O σ H hd hz Q q =>
  h O σ H hd hz _ fun v H1 s1 m1 => hc O σ H1 (hd.same s1) (hz.same s1) _ fun w H2 s2 m2 => by
    cases m2
    have m3 := m1.same s2
    cases m3 with
    | lst n e r =>
      rename_i a xs
      refine ⟨-1, rfl, a, xs, rfl, SqL.of e, fun p np => q p _ _ ((s1.trans s2).free np) ((s1.trans s2).trans (Same.new np)) upd_same ?_⟩
      have ec : cutV xs none (some (-1)) = xs.take (xs.length - 1) := by
        unfold cutV HT.sIx
        simp
        congr 1
        omega
      rw [ec, List.dropLast_eq_take, r.length]
      exact (DmL.fresh (r.take _) np).new np
end
end Wt

/-! WtT: the text by places; what callers hold of a def. -/
namespace Wt
open PySem PySem.Spec PyProof.Rows L2
abbrev FunW (K : PySem.W.Frag) (x qual : Str) (st : Stmt) (f : Addr) (fd : FuncData) : Prop := FunD K x qual (defArgs st) (defBody st) (defScope st) [] [] f fd
/-- a def of the module that keeps its promise, for its callers -/
structure CalF (P : Program) (w : World) (K : PySem.W.Frag) (mg : Str → Option Value) (base : Heap) (x : Str) (k : Nat) (ps : List Str) (sp : Sp) : Prop where
  ex : ∃ f fd, FnOk P w K mg base CX0 k f fd ps sp ∧ mg x = some (.ref f) ∧ PySem.W.keepIn K (.ref f) = true ∧ Binds K fd ps []
/-- a method -/
structure CalM (P : Program) (w : World) (K : PySem.W.Frag) (mg : Str → Option Value) (base : Heap) (C : Addr) (m : Str) (k : Nat) (ps : List Str) (sp : Sp) : Prop where
  ex : ∃ f fd, FnOk P w K mg base CX0 k f fd ps sp ∧ Meth K C m f ∧ Binds K fd ps []
/-- the class State, the class World, the built-ins as the text leaves them -/
structure Txt (K : PySem.W.Frag) (mg : Str → Option Value) (S W : Addr) : Prop where
  clS : Cls K S
  clW : Cls K W
  nS : ∀ f, f ∈ (["tale", "rows", "rooms", "ways", "spot", "moment", "wheres", "lids", "dressed", "counts"] : List Str) → NoAttr K S f
  nW : ∀ f, f ∈ (["told_places", "told_things", "told_ways", "told_states", "told_rules", "told_everies", "told_scenes", "told_ends"] : List Str) → NoAttr K W f
  mgS : mg "State" = some (.ref S)
  mgW : mg "World" = some (.ref W)
  all : mg "all" = none
  any : mg "any" = none
  bool : mg "bool" = none
  dict : mg "dict" = none
  enumerate : mg "enumerate" = none
  int : mg "int" = none
  isinstance : mg "isinstance" = none
  len : mg "len" = none
  list : mg "list" = none
  range : mg "range" = none
  sorted : mg "sorted" = none
  str : mg "str" = none
  sum : mg "sum" = none
  tuple : mg "tuple" = none
  zip : mg "zip" = none
  vowels : ∃ t, mg "VOWELS" = some (.str "aeiou" t)
  most : ∃ t, mg "MOST_NUMBER" = some (.int 9 t)
end Wt

/-! WtP: rules that the layer lacks. -/
namespace Wt
open PySem PySem.Spec PyProof.Rows L2
open AutoSeq1 (wpAny_loadPart')
theorem tuple_mul0 (l : Addr) (items : Array Value) (n : Nat) (dd : Option Addr) (sl : Array (Option Value)) (u : Tok) (c1 : items.isEmpty = false) :
    Meets (Builtin.«tuple.__mul__» ⟨[.ref l, .int 0 u], []⟩) (fun _ R s => s.heap.get? l = some { cls := .type "tuple", dict := dd, data := .seq items n, slots := sl } ∧
      R (.ok (.ret (Value.ref s.heap.objs.size))) { s with heap := s.heap.push { cls := Value.type "tuple", data := Data.seq #[] }, toks := s.toks }) :=
  .of_wp fun prog w A R s h => by
    obtain ⟨hp, g, d, tk, os⟩ := s
    obtain ⟨hl, h⟩ := h
    have f1 := AutoSeq1.idx_int
    have c0 : (decide ((0 : Int) < -(2 ^ 63)) || decide ((0 : Int) ≥ 2 ^ 63)) = false := by decide
    have c2 : (items.isEmpty || (0 : Int) == 1) = false := by rw [c1]; rfl
    have c3 : (decide ((0 : Int) ≤ 0) || items.isEmpty) = true := by rw [c1]; rfl
    wp_walk using wpAny_loadPart' hl
    repeat (first
      | (refine wpAny_ite_false (decide_eq_false (by rw [c0]; exact Bool.false_ne_true)) ?_; wp_walk using wpAny_loadPart' hl)
      | (refine wpAny_ite_false (decide_eq_false (by rw [c2]; exact Bool.false_ne_true)) ?_; wp_walk using wpAny_loadPart' hl)
      | (refine wpAny_ite_true (decide_eq_true (by rw [c3])) ?_; wp_walk using wpAny_loadPart' hl))
    exact ⟨_, rfl, h⟩
theorem tuple_mul1 (l : Addr) (items : Array Value) (n : Nat) (dd : Option Addr) (sl : Array (Option Value)) (u : Tok) :
    Meets (Builtin.«tuple.__mul__» ⟨[.ref l, .int 1 u], []⟩) (fun _ R s => s.heap.get? l = some { cls := .type "tuple", dict := dd, data := .seq items n, slots := sl } ∧ R (.ok (.ret (Value.ref l))) s) :=
  .of_wp fun prog w A R s h => by
    obtain ⟨hp, g, d, tk, os⟩ := s
    obtain ⟨hl, h⟩ := h
    have f1 := AutoSeq1.idx_int
    have c0 : (decide ((1 : Int) < -(2 ^ 63)) || decide ((1 : Int) ≥ 2 ^ 63)) = false := by decide
    have c2 : (items.isEmpty || (1 : Int) == 1) = true := by rw [show ((1 : Int) == 1) = true from rfl, Bool.or_true]
    wp_walk using wpAny_loadPart' hl
    repeat (first
      | (refine wpAny_ite_false (decide_eq_false (by rw [c0]; exact Bool.false_ne_true)) ?_; wp_walk using wpAny_loadPart' hl)
      | (refine wpAny_ite_true (decide_eq_true (by rw [c2])) ?_; wp_walk using wpAny_loadPart' hl))
    exact ⟨_, rfl, h⟩
section
variable {X : Cx} {pos : Pos} {e c : Expr} {te tc : TE}
def rListDR : List V → Hp → VK → Prop := fun xs H Q => ∃ p kvs, xs = [.ref p] ∧ Rd H p (.dK kvs) ∧ ∀ q, H q = none → Q (.ref q) (upd H q (.lst (kvs.map fun kv => kV kv.1)))
theorem call_list_dR (hc : X.calm = true) : CallR X (.type "list") rListDR := call_listD hc
def rLenR : List V → Hp → VK → Prop := fun xs H Q => ∃ a kvs, xs = [V.ref a] ∧ Rd H a (.dK kvs) ∧ Q (.int kvs.length) H
theorem call_lenR : CallR X (.builtin "len") rLenR := by
  intro pins s σ H xs us Q I r h
  obtain ⟨a, kvs, rfl, ha, q⟩ := h
  obtain ⟨u, rfl, ru⟩ := vals1 r
  cases ru
  exact d_len I ha fun t s' I' => ⟨.int kvs.length, H, I', ⟨t, rfl⟩, q⟩
def tListVals (te : TE) : TE := fun σ H Q => te σ H fun x H1 => ∃ d kvs, x = .ref d ∧ Rd H1 d (.dK kvs) ∧ ∀ q, H1 q = none → Q (.ref q) (upd H1 q (.lst (kvs.map (·.2))))
theorem pe_listVals {p apos cpos : Pos} (hc : X.calm = true) (hg : Gl X "list") (hm : X.mg "list" = none) (he : PE X e te) (hbase : attributeBase e "values" X.env (eval e X.env) = eval e X.env := by rfl) (hline : (apos.endLine == cpos.line) = true := by rfl)
    (na : starEach [Expr.Call (.Attribute e "values" apos) [] [] cpos] X.env = (false, eval (Expr.Call (.Attribute e "values" apos) [] [] cpos) X.env) :: starEach [] X.env := by rfl) :
    PE X (.Call (.Name "list" p) [.Call (.Attribute e "values" apos) [] [] cpos] [] pos) (tListVals te) := by
  refine ⟨fun pins s σ H Q I h => ?_⟩
  refine Call_ (ld_blt I hg hm boot_list (PyProof.Rows.callWith_type1 (args_cons (wpAny_Call_method0_late hbase hline (thn (he.run pins s σ H _ I h) fun v s1 ⟨x, H1, I1, r1, a, kvs, ex, ha, q⟩ => ?_)) na) na))
  subst ex
  obtain rfl : v = Value.ref a := r1
  obtain ⟨z, hsys, vs, rel, dof⟩ := dk_rd I1.hok ha
  obtain ⟨ep, dat⟩ := dof.dictAt
  have dat' := dat
  obtain ⟨ob, es, ho, ex, hdat, hko, hpr, hnd⟩ := dat'
  refine ⟨"dict", "dict.values", F.plainAttrs_dict, F.slot_dict_values, F.type_dict_values, ⟨ob, ho, ex.1⟩, fun b e => ?_, Calls.callWith_builtin rfl (PySem.evalArgs_none ?_)⟩
  · cases e
    exact ⟨ob, ho, ex.2.1⟩
  refine call_meetsIn F.slot_dict_values ⟨ob, ho, ex.1⟩ F.entry_dict_values (F.args_dict_values_1 _) (meets_dict_values (mixKind X.prog X.w) a hsys) ⟨⟨vs, dof⟩, ?_⟩
  have k1 : ∀ b u, s1.heap.get? b = some u → (s1.heap.push { cls := .type "dict_values", data := .fields #[.ref a] }).get? b = some u := fun b u e => Heap.get?_push_of_some _ e
  have dat1 : (s1.heap.push { cls := .type "dict_values", data := .fields #[.ref a] }).DictAt (mixKind X.prog X.w) a vs ep := dat.keep k1
  have I2 : Inv X pins σ H1 { s1 with heap := s1.heap.push { cls := .type "dict_values", data := .fields #[.ref a] } } := I1.kept (t' := s1.toks) k1
  have hl : kvs.length = vs.length := KV.length rel
  refine args_nil ?_
  refine PySem.W.kdl_call (PySem.W.kdl_values (knd := mixKind X.prog X.w) (r := s1.heap.objs.size) (d := a) (kvs := vs) (ep := ep)) (I2.ok.hd hc) ⟨⟨_, Heap.get?_push_size _ rfl, rfl, rfl⟩, dat1⟩ (by rw [← hl]; exact z) fun h' tk acc' c' hkeep hS hacc => ?_
  refine ⟨.ref (s1.heap.push { cls := .type "dict_values", data := .fields #[.ref a] }).objs.size, upd H1 (s1.heap.push { cls := .type "dict_values", data := .fields #[.ref a] }).objs.size (.lst (kvs.map (·.2))), I2.laid hkeep (Nat.le_refl _) (show ObjOk X.prog X.w _ _ _ (.lst (kvs.map (·.2))) from ⟨?_, acc'.toList, c', ?_, ?_⟩), rfl, q _ (I2.hok.fresh (Nat.le_refl _))⟩
  · rw [List.length_map]; exact z
  · have el : acc'.toList.length = acc'.size := by simp
    refine vals_of_at (by rw [List.length_map, el, hacc.1, hl]) fun j x w h1 h2 => ?_
    obtain ⟨k, hky⟩ := hacc.2 j w (by rw [← Array.getElem?_toList]; exact h2)
    obtain ⟨x', h3, h4⟩ := KV.at' rel hky
    rw [List.getElem?_map, h3] at h1
    cases h1
    exact h4
  · rw [Array.toArray_toList]; exact hS
def rSortedST (K : PySem.W.Frag) : List V → Hp → VK → Prop := fun vs H Q => ∃ (a : Addr) (xs : List Str), vs = [V.ref a] ∧ SqT K H a (xs.map V.str) ∧ xs.length < 64 ∧
  ∀ (ys : List Str) (p : Addr), ys.Perm xs → sortedS ys = true → H p = none → Q (.ref p) (upd H p (.lst (ys.map V.str)))
theorem cr_sortedST : CallR X (.builtin "sorted") (rSortedST X.K) := by
  intro pins s σ H vs us Q I r h
  obtain ⟨a, xs, rfl, hs, h64, q⟩ := h
  obtain ⟨its, rv, ⟨ob, ho, hcl, n, hd⟩, hz⟩ := I.tuple hs
  rw [Vals.ref1 r]
  have hS := rv.strs
  have hl : its.length = xs.length := by
    have z := rv.length
    rw [List.length_map] at z
    exact z.symm
  refine Calls.call_function_entry PyProof.Rows.kind_sorted PyProof.Rows.plain_sorted PyProof.Rows.entry_sorted (PyProof.Rows.args_sorted1 _) ?_
  unfold Builtin.«sorted»
  refine wpAny_bind (m := checkCount "sorted" 1 1 _) (wpAny_pure ?_)
  refine wpAny_bind (wpAny_collect_seq a (.inr rfl) ho hcl hd (fun h' hk => ?_) (by rw [List.size_toArray, hl, sizeLine_eq]; omega))
  have I1 : Inv X pins σ H { s with heap := h' } := I.kept (t' := s.toks) hk
  have ei : its.toArray.toList = its := by simp
  rw [ei]
  refine wpAny_bind (wpAny_newList ?_ (by rw [hl, sizeLine_eq]; omega))
  have hoL : (h'.push (seqObj "list" its.toArray 0)).get? h'.objs.size = some (seqObj "list" its.toArray 0) := Heap.get?_push_size _ rfl
  show wpAny _ _ _ _ _ { s with heap := h'.push (seqObj "list" its.toArray 0) }
  refine wpAny_bind (wpAny_holding (wpAny_call_entry PyProof.Rows.slot_list_sort ⟨_, hoL, rfl⟩ PyProof.Rows.entry_list_sort
    (list_sort_treeK strKind_oneLt (s := { s with heap := h'.push (seqObj "list" its.toArray 0) }) hoL hS.keysOf (fun v₁ v₂ rest e => keyKind_strs (by rw [← e]; exact hS)) (by rw [hl]; exact h64) fun st' hp hs => ⟨_, rfl, ?_⟩)
    (PyProof.Rows.args_list_sort _)))
  obtain ⟨ys, g1, g2, g3⟩ := sorted_out_str hS hp hs
  obtain ⟨e', he'⟩ := PyProof.Rows.sortedHeap_at (vs := its) (out := (arrOf st').map (·.2)) hoL
  have hlen : (ys.map V.str).length ≤ sizeLine := by
    rw [List.length_map, g2.length_eq]
    exact Nat.le_trans (Nat.le_of_lt h64) (by decide)
  refine wpAny_pure ⟨_, rfl, .ref h'.objs.size, upd H h'.objs.size (.lst (ys.map V.str)), I1.laid (t' := s.toks) (fun b u e => ?_) (Nat.le_refl _)
    (show ObjOk X.prog X.w _ _ _ (.lst (ys.map V.str)) from ⟨hlen, ((arrOf st').map (·.2)).toList, e', vals_of_strs g1, by rw [Array.toArray_toList]; exact he'⟩), rfl, q ys _ g2 g3 (I1.hok.fresh (Nat.le_refl _))⟩
  have hb : b < h'.objs.size := Heap.lt_size e
  rw [PyProof.Rows.sortedHeap_old (Nat.ne_of_lt hb) (by rw [size_push']; exact Nat.lt_succ_of_lt hb)]
  exact Heap.get?_push_of_some _ e
def tSlStep (K : PySem.W.Frag) (te tc : TE) : TE := fun σ H Q => te σ H fun x H1 => tPart tc σ H1 fun o H2 => ∃ a xs, x = .ref a ∧ SqL K H2 a xs ∧ ((o = some 1 ∧ ∀ p, H2 p = none → Q (.ref p) (upd H2 p (.lst xs))) ∨ (o = some (-1) ∧ ∀ p, H2 p = none → Q (.ref p) (upd H2 p (.lst xs.reverse))))
theorem pe_sliceStep {p2 : Pos} (he : PE X e te) (hcc : PE X c tc) : PE X (.Subscript e (.Slice none none (some c) p2) pos) (tSlStep X.K te tc) := by
  refine ⟨fun pins s σ H Q I h => ?_⟩
  refine Subscript_ (thn (he.run pins s σ H _ I h) fun v s1 ⟨x, H1, I1, r1, q1⟩ => ?_)
  refine wpAny_Slice (thn (po_none.run pins s1 σ H1 (fun o H2 => o = none ∧ H2 = H1) I1 ⟨rfl, rfl⟩) fun vl s2 ⟨l, H2, I2, pl, el, e2⟩ => ?_)
  subst el e2
  refine thn (po_none.run pins s2 σ H2 (fun o H3 => o = none ∧ H3 = H2) I2 ⟨rfl, rfl⟩) fun vu s3 ⟨u, H3, I3, pu, eu, e3⟩ => ?_
  subst eu e3
  refine thn ((po_some hcc).run pins s3 σ H3 _ I3 q1) fun vs s4 ⟨o, H4, I4, ps, a, xs, ex, hx, q⟩ => ?_
  subst ex
  cases r1
  have I5 : Inv X pins σ H4 { s4 with heap := s4.heap.push { cls := .type "slice", data := .fields #[vl, vu, vs] } } := I4.kept (t' := s4.toks) fun b ob q => Heap.get?_push_of_some _ q
  obtain ⟨its, r, ht, hz⟩ := I5.list hx
  have hlen := r.length
  show wpAny (model X.prog X.w) X.A (subscriptTail e (.Slice none none (some c) p2) (.ref a) (.ref s4.heap.objs.size)) (EP X pins σ Q) X.xe { s4 with heap := s4.heap.push { cls := .type "slice", data := .fields #[vl, vu, vs] } }
  refine tail_any (ops := [.ref a, .ref s4.heap.objs.size]) ht.isList.typeIs (PySem.slot_list_getitem.lookup) ?_ (by with_unfolding_all rfl)
  rcases q with ⟨eo, q⟩ | ⟨eo, q⟩
  · subst eo
    refine wpAny_getItem_list_slice ht.isList (Heap.IsSliceOf.new _ vl vu vs) pl pu ps (by decide) ?_ (by rw [List.size_toArray]; omega)
    have e1 : slicePick its.toArray none none (some 1) = its.toArray := by
      show slicePick its.toArray none none none = _
      rw [slicePick_cut]
      simp [HT.sIx_none]
    rw [e1]
    refine ⟨.ref _, _, I5.laid (t' := s4.toks) (o := .lst xs) (fun b ob q => Heap.get?_push_of_some _ q) (Nat.le_refl _) ?_, rfl, q _ (I5.hok.fresh (Nat.le_refl _))⟩
    exact ⟨hz, _, 0, r, Heap.get?_push_size _ rfl⟩
  · subst eo
    refine wpAny_getItem_list_slice ht.isList (Heap.IsSliceOf.new _ vl vu vs) pl pu ps (by decide) ?_ (by rw [List.size_toArray]; omega)
    rw [PySem.W.krv_pick]
    refine ⟨.ref _, _, I5.laid (t' := s4.toks) (o := .lst xs.reverse) (fun b ob q => Heap.get?_push_of_some _ q) (Nat.le_refl _) ?_, rfl, q _ (I5.hok.fresh (Nat.le_refl _))⟩
    exact ⟨by rw [List.length_reverse]; exact hz, _, 0, r.reverse, Heap.get?_push_size _ rfl⟩
def rRepT2 (K : PySem.W.Frag) : R2 := fun x y H Q => ∃ l k xs, x = .ref l ∧ y = .int k ∧ SqT K H l xs ∧ xs ≠ [] ∧ ((k = 0 ∧ ∀ p, H p = none → Q (.ref p) (upd H p (.tup []))) ∨ (k = 1 ∧ Q (.ref l) H))
theorem op_repT2 : OpR X (binaryOp .Mult) (rRepT2 X.K) := by
  intro pins s σ H x y v u Q I rx ry h
  obtain ⟨l, k, xs, rfl, rfl, hT, hne, h⟩ := h
  cases rx
  obtain ⟨t, rfl⟩ := ry
  obtain ⟨its, r, ⟨⟨cls, dd, data, sl⟩, ho, hc, n, hd⟩, hs⟩ := I.tuple hT
  simp only at hc hd
  subst hc hd
  have hle : its.length = xs.length := r.length.symm
  have hn : its ≠ [] := fun e => hne (by
    rw [e] at hle
    exact List.eq_nil_of_length_eq_zero hle.symm)
  have hi : its.toArray.isEmpty = false := by
    cases its with
    | nil => exact absurd rfl hn
    | cons a b => rfl
  rcases h with ⟨rfl, q⟩ | ⟨rfl, q⟩
  · refine wpAny_binaryOp_repeat_ref (T := "tuple") (U := "int") (by decide) ⟨_, ho, rfl⟩ (fun s' => typeIs_int s' 0 t) noFill_tuple_mul F.fills_int_mul F.slot_int_rmul repeat_tuple F.slot_int_index.lookup
      (call_meets F.slot_int_rmul (typeIs_int s 0 t) F.entry_int_rmul (F.args_int_rmul_2 _ _) (int_rmul_tuple 0 t l its.toArray n dd sl)
        ⟨ho, rfl, ⟨_, ho, rfl⟩, call_meets F.slot_tuple_mul ⟨_, ho, rfl⟩ F.entry_tuple_mul (F.args_tuple_mul_2 _ _) (tuple_mul0 l its.toArray n dd sl t hi) ⟨ho, ?_⟩⟩)
    refine ⟨.ref s.heap.objs.size, _, I.laid (t' := s.toks) (o := .tup []) (fun b ob q => Heap.get?_push_of_some _ q) (Nat.le_refl _) ?_, rfl, q _ (I.hok.fresh (Nat.le_refl _))⟩
    exact ⟨Nat.zero_le _, [], .nil, IsTup.new _ _⟩
  · refine wpAny_binaryOp_repeat_ref (T := "tuple") (U := "int") (by decide) ⟨_, ho, rfl⟩ (fun s' => typeIs_int s' 1 t) noFill_tuple_mul F.fills_int_mul F.slot_int_rmul repeat_tuple F.slot_int_index.lookup
      (call_meets F.slot_int_rmul (typeIs_int s 1 t) F.entry_int_rmul (F.args_int_rmul_2 _ _) (int_rmul_tuple 1 t l its.toArray n dd sl)
        ⟨ho, rfl, ⟨_, ho, rfl⟩, call_meets F.slot_tuple_mul ⟨_, ho, rfl⟩ F.entry_tuple_mul (F.args_tuple_mul_2 _ _) (tuple_mul1 l its.toArray n dd sl t) ⟨ho, ?_⟩⟩)
    exact ⟨.ref l, H, I, rfl, q⟩
def rRepS : R2 := fun x y H Q => ∃ s k, x = .str s ∧ y = .int k ∧ ((k = 0 ∧ Q (.str Str.empty) H) ∨ (k = 1 ∧ s.length ≤ 1000 ∧ Q (.str s) H))
theorem op_repS : OpR X (binaryOp .Mult) rRepS := by
  intro pins s σ H x y v u Q I rx ry h
  obtain ⟨z, k, rfl, rfl, h⟩ := h
  obtain ⟨t, rfl⟩ := rx
  obtain ⟨t', rfl⟩ := ry
  rcases h with ⟨rfl, q⟩ | ⟨rfl, hl, q⟩
  · exact PySem.P.mul_str_none (by decide) (by decide) ⟨.str Str.empty, H, I.tok _, ⟨_, rfl⟩, q⟩
  · refine PySem.P.mul_str (by decide) (fun _ h => by cases h) (fun _ h => by cases h) ?_
    exact ⟨.str z, H, I, ⟨_, rfl⟩, q⟩
def rNeE : R2 := fun x y H Q => ∃ a b kvs, x = .ref a ∧ y = .ref b ∧ Rd H a (.dK kvs) ∧ Rd H b (.dK []) ∧ Q (.bl (!kvs.isEmpty)) H
theorem op_neE (hu : X.A.units + 1 < cLine) : OpR X (compareOp .NotEq) rNeE := by
  intro pins s σ H x y v u Q I rx ry h
  obtain ⟨a, b, ks, rfl, rfl, ea, eb, q⟩ := h
  obtain rfl : v = Value.ref a := rx
  obtain rfl : u = Value.ref b := ry
  obtain ⟨_, ya, va, ra, da⟩ := dk_rd I.hok ea
  obtain ⟨_, yb, vb, rb, db⟩ := dk_rd I.hok eb
  cases rb
  cases ra with
  | nil => exact PySem.W.keq_ne (knd := mixKind X.prog X.w) (r := true) ya yb da db (by omega) (fun _ => .nil) (fin_bl I q rfl)
  | cons p t => exact PySem.W.keq_ne (knd := mixKind X.prog X.w) (r := true) ya yb da db (by omega) (fun z => by simp at z) (fin_bl I q (by simp))
def tLockO (t : TE) : TE := fun σ H Q => tLockE t σ H Q ∨ t σ H Q
theorem pe_lockO {t : TE} (h : PE X e t) : PE X e (tLockO t) := ⟨fun pins s σ H Q I z => z.elim (fun z => (pe_lock h).run pins s σ H Q I z) fun z => h.run pins s σ H Q I z⟩
def tLockSO (t : TS) : TS := fun D σ H => tLock t D σ H ∨ t D σ H
theorem ps_lockO {st : Stmt} {t : TS} (h : PS X st t) : PS X st (tLockSO t) := ⟨fun pins s σ H D I z => z.elim (fun z => (ps_lock h).run pins s σ H D I z) fun z => h.run pins s σ H D I z⟩
end
end Wt

/-! WtK: the layer's rules with the written part by its name. -/
namespace Wt
open PySem PySem.Spec PyProof.Rows L2
section
variable {X : Cx} {K : PySem.W.Frag} {e o a b tg l : Expr} {es : List Expr} {te ta tb to : TE} {t : TA} {f : Str} {pos : Pos} {rest : List Expr}
theorem kIxT (h : X.K = K := by rfl) : IxR X (rIxT K) := by subst h; exact ix_tup
theorem kIxL (h : X.K = K := by rfl) : IxR X (rIxL K) := by subst h; exact ix_list
theorem kIn (h : X.K = K := by rfl) : OpR X (compareOp .In) (rIn K false) := by subst h; exact op_in_seq
theorem kNotIn (h : X.K = K := by rfl) : OpR X (compareOp .NotIn) (rIn K true) := by subst h; exact op_notIn_seq
theorem kInD (hu : X.A.units + 65 < cLine) (h : X.K = K := by rfl) : OpR X (compareOp .In) (rInD K) := by subst h; exact op_inD hu
theorem kNotInD (hu : X.A.units + 65 < cLine) (h : X.K = K := by rfl) : OpR X (compareOp .NotIn) (rNotInD K) := by subst h; exact op_notInD hu
theorem kEqD (hu : X.A.units + 64 < cLine) (h : X.K = K := by rfl) : OpR X (compareOp .Eq) (rEqD K) := by subst h; exact op_eqD hu
theorem kNeD (hu : X.A.units + 64 < cLine) (h : X.K = K := by rfl) : OpR X (compareOp .NotEq) (rNeD K) := by subst h; exact op_neD hu
theorem kCatA (h : X.K = K := by rfl) : OpR X (binaryOp .Add) (rCatA K) := by subst h; exact op_catA
theorem kRepT (h : X.K = K := by rfl) : OpR X (binaryOp .Mult) (rRepT2 K) := by subst h; exact op_repT2
theorem kFld (he : PE X e te) (hb : attributeBase e f X.env (eval e X.env) = eval e X.env) (h : X.K = K := by rfl) : PE X (.Attribute e f pos) (tFld K te f) := by subst h; exact pe_fld he hb
theorem kList (hl : PE X l te) (h : X.K = K := by rfl) : PI X tg l (iList K te) := by subst h; exact pi_list hl
theorem kTupI (hl : PE X l te) (h : X.K = K := by rfl) : PI X tg l (iTup K te) := by subst h; exact pi_tup hl
theorem kLen (h : X.K = K := by rfl) : CallR X (.builtin "len") (cLen K) := by subst h; exact call_len_seq
theorem kListOf (h : X.K = K := by rfl) : CallR X (.type "list") (cList K) := by subst h; exact call_list_of
theorem kTupOf (h : X.K = K := by rfl) : CallR X (.type "tuple") (cTup K) := by subst h; exact call_tuple_of
theorem kDict (hc : X.calm = true) (h : X.K = K := by rfl) : CallR X (.type "dict") (cDict K) := by subst h; exact call_dictP hc
theorem kAny (hc : X.calm = true) (h : X.K = K := by rfl) : CallR X (.builtin "any") (rAny K) := by subst h; exact cr_any hc
theorem kAll (hc : X.calm = true) (h : X.K = K := by rfl) : CallR X (.builtin "all") (rAll K) := by subst h; exact cr_all hc
theorem kSum (hc : X.calm = true) (h : X.K = K := by rfl) : CallR X (.builtin "sum") (rSum K) := by subst h; exact cr_sum hc
theorem kSorted (h : X.K = K := by rfl) : CallR X (.builtin "sorted") (rSortedS K) := by subst h; exact cr_sortedS
theorem kSortedT (h : X.K = K := by rfl) : CallR X (.builtin "sorted") (rSortedST K) := by subst h; exact cr_sortedST
theorem kIsi (h : X.K = K := by rfl) : CallR X (.builtin "isinstance") (rIsi K) := by subst h; exact call_isi
theorem kIsiT (h : X.K = K := by rfl) : CallR X (.builtin "isinstance") (rIsiT K) := by subst h; exact call_isiT
theorem kSlL (h : X.K = K := by rfl) : SlR X (rSlL K) := by subst h; exact sl_list
theorem kSlStep {c : Expr} {tc : TE} {p2 : Pos} (he : PE X e te) (hcc : PE X c tc) (h : X.K = K := by rfl) : PE X (.Subscript e (.Slice none none (some c) p2) pos) (tSlStep K te tc) := by subst h; exact pe_sliceStep he hcc
theorem kOrT (ha : PE X a ta) (hb : PE X (.BoolOp .Or (b :: rest) pos) tb) (h : X.K = K := by rfl) : PE X (.BoolOp .Or (a :: b :: rest) pos) (tOrT K ta tb) := by subst h; exact pe_orT ha hb
theorem kTupG {k : Nat} {gs : TGs} {n : Nat} (hc : X.calm = true) (h : PGs X es gs) (hk : X.K = K := by rfl) (hn : (assignEach es X.env).length = n := by rfl) (hst : (assignEach es X.env).findIdx? (·.1) = none := by rfl) : PG X (.Tuple es k pos) (gTup K n gs) := by
  subst hk
  exact pg_tup hc h hn hst
theorem kJoin {apos : Pos} (ho : PE X o to) (he : PE X e te) (hs : starEach [e] X.env = [(false, eval e X.env)] := by rfl) (hbase : attributeBase o "join" X.env (eval o X.env) = eval o X.env := by rfl) (hline : (apos.endLine == pos.line) = true := by rfl) (h : X.K = K := by rfl) :
    PE X (.Call (.Attribute o "join" apos) [e] [] pos) (tM1 (cJoin K) to te) := by
  subst h
  exact pe_join ho he hs hbase hline
theorem kEnum {ta : TA} {p tpos : Pos} {elts : List Expr} {kk : Nat} (hg : Gl X "enumerate") (hm : X.mg "enumerate" = none) (ha : PA X [e] ta) (hs : starEach [e] X.env = [(false, eval e X.env)] := by rfl) (h : X.K = K := by rfl) :
    PI X (.Tuple elts kk tpos) (.Call (.Name "enumerate" p) [e] [] pos) (iEnum K ta) := by
  subst h
  exact pi_enum hg hm ha hs
theorem kZip {e2 : Expr} {ta : TA} {p tpos : Pos} {elts : List Expr} {kk : Nat} (hg : Gl X "zip") (hm : X.mg "zip" = none) (ha : PA X [e, e2] ta) (hs : starEach [e, e2] X.env = (false, eval e X.env) :: starEach [e2] X.env := by rfl) (hpl : (backTo pos (starEach [e2] X.env)).any (·.1) = false := by rfl) (h : X.K = K := by rfl) :
    PI X (.Tuple elts kk tpos) (.Call (.Name "zip" p) [e, e2] [] pos) (RZ.iZipA K ta) := by
  subst h
  exact RZ.pi_zipA hg hm ha hs hpl
end
end Wt

/-! WtM: worlds and their states, typed; as plain data. -/
namespace Wt
open PySem PySem.Spec PyProof.Rows L2

inductive Wh where
  | at_ (p : Str) | in_ (h : Str) | on_ (h : Str) | with_ | nowhere
  deriving DecidableEq
def Wh.d : Wh → D
  | .at_ p => .tup [.str "at", .str p]
  | .in_ h => .tup [.str "in", .str h]
  | .on_ h => .tup [.str "on", .str h]
  | .with_ => .tup [.str "with"]
  | .nowhere => .tup [.str "nowhere"]
structure Thing where
  name : Str
  noun : Str
  adjs : List Str
  whr : Wh
  traits : List Str
structure Way where
  src : Str
  dir : Str
  dst : Str
  door : Str
structure Mo where
  seed : Int
  places : List (Str × Bool)
  things : List Thing
  ways : List Way
  states : List (Str × Int)
structure Sta where
  here : Str
  turn : Int
  whs : List (Str × Wh)
  ops : List (Str × Bool)
  worn : List (Str × Bool)
  nums : List (Str × Int)
def Thing.d (t : Thing) : D := .tup [.str t.name, .str t.noun, .tup (t.adjs.map .str), t.whr.d, .tup (t.traits.map .str)]
def Way.d (y : Way) : D := .tup [.str y.src, .str y.dir, .str y.dst, .str y.door]
def placeD (p : Str × Bool) : D := .tup [.str p.1, .bl p.2]
def strowD (p : Str × Int) : D := .tup [.str p.1, .int p.2]
def whsD (l : List (Str × Wh)) : List (Str × D) := l.map fun p => (p.1, p.2.d)
def blsD (l : List (Str × Bool)) : List (Str × D) := l.map fun p => (p.1, .bl p.2)
def numsD (l : List (Str × Int)) : List (Str × D) := l.map fun p => (p.1, .int p.2)
def rowsD (l : List Thing) : List (Str × D) := l.map fun t => (t.name, t.d)
def Mo.d (m : Mo) : D := .dic [("seed", .int m.seed), ("places", .lst (m.places.map placeD)), ("things", .lst (m.things.map Thing.d)), ("ways", .lst (m.ways.map Way.d)), ("states", .lst (m.states.map strowD))]
def Sta.d (s : Sta) : D := .dic [("here", .str s.here), ("turn", .int s.turn), ("where", .dic (whsD s.whs)), ("open", .dic (blsD s.ops)), ("worn", .dic (blsD s.worn)), ("numbers", .dic (numsD s.nums))]
def wfs (m : Mo) : List (Str × D) := [("told_places", .lst (m.places.map placeD)), ("told_things", .lst (m.things.map Thing.d)), ("told_ways", .lst (m.ways.map Way.d)), ("told_states", .lst (m.states.map strowD)), ("told_rules", .lst []), ("told_everies", .lst []), ("told_scenes", .lst []), ("told_ends", .lst [])]
def woD (W : Addr) (m : Mo) : D := .obj W (wfs m)
def sfs (W : Addr) (m : Mo) (s : Sta) : List (Str × D) := [("tale", woD W m), ("rows", .dic (rowsD m.things)), ("rooms", .dic (blsD m.places)), ("ways", .lst (m.ways.map Way.d)), ("spot", .str s.here), ("moment", .int s.turn), ("wheres", .dic (whsD s.whs)), ("lids", .dic (blsD s.ops)), ("dressed", .dic (blsD s.worn)), ("counts", .dic (numsD s.nums))]
def stD (S W : Addr) (m : Mo) (s : Sta) : D := .obj S (sfs W m s)

/-! ### lookups -/
def look {α : Type} (l : List (Str × α)) (k : Str) : Option α := (l.find? fun p => decide (p.1 = k)).map (·.2)
def thg (m : Mo) (k : Str) : Option Thing := m.things.find? fun t => decide (t.name = k)
section
variable {α : Type}
theorem look_cons (p : Str × α) (l : List (Str × α)) (k : Str) : look (p :: l) k = if p.1 = k then some p.2 else look l k := by
  unfold look
  rw [List.find?_cons]
  by_cases h : p.1 = k <;> simp [h]
theorem valD_map (e : α → D) (k : Str) : ∀ l : List (Str × α), valD (l.map fun p => (p.1, e p.2)) k = (look l k).map e
  | [] => rfl
  | p :: l => by
    have ih := valD_map e k l
    rw [look_cons]
    unfold valD at ih ⊢
    rw [List.map_cons, List.find?_cons]
    by_cases h : p.1 = k
    · simp [h]
    · simpa [h] using ih
theorem valD_rows (k : Str) : ∀ l : List Thing, valD (rowsD l) k = (l.find? fun t => decide (t.name = k)).map Thing.d
  | [] => rfl
  | t :: l => by
    have ih := valD_rows k l
    unfold valD rowsD at ih ⊢
    rw [List.map_cons, List.find?_cons, List.find?_cons]
    by_cases h : t.name = k
    · simp [h]
    · simpa [h] using ih
theorem look_none {l : List (Str × α)} {k : Str} : look l k = none ↔ k ∉ l.map (·.1) := by
  unfold look
  rw [Option.map_eq_none_iff, List.find?_eq_none]
  constructor
  · intro h m
    obtain ⟨p, hp, e⟩ := List.mem_map.mp m
    exact h p hp (decide_eq_true e)
  · intro h p hp e
    exact h (List.mem_map.mpr ⟨p, hp, of_decide_eq_true e⟩)
theorem look_some {l : List (Str × α)} {k : Str} (h : k ∈ l.map (·.1)) : ∃ v, look l k = some v := by
  cases e : look l k with
  | none => exact absurd h (look_none.mp e)
  | some v => exact ⟨v, rfl⟩
theorem look_mem {l : List (Str × α)} {k : Str} {v : α} (h : look l k = some v) : (k, v) ∈ l := by
  unfold look at h
  obtain ⟨p, hp, e⟩ := Option.map_eq_some_iff.mp h
  have h1 := List.mem_of_find?_eq_some hp
  have h2 := List.find?_some hp
  have h3 : p.1 = k := of_decide_eq_true h2
  rw [← h3, ← e]
  exact h1
theorem look_key {l : List (Str × α)} {k : Str} {v : α} (h : look l k = some v) : k ∈ l.map (·.1) := List.mem_map.mpr ⟨_, look_mem h, rfl⟩
theorem look_of_mem {l : List (Str × α)} (hn : (l.map (·.1)).Nodup) {k : Str} {v : α} (h : (k, v) ∈ l) : look l k = some v := by
  induction l with
  | nil => cases h
  | cons p l ih =>
    rw [List.map_cons, List.nodup_cons] at hn
    rw [look_cons]
    rcases List.mem_cons.mp h with e | h
    · rw [← e, if_pos rfl]
    · rw [if_neg fun z => hn.1 (by rw [z]; exact List.mem_map.mpr ⟨_, h, rfl⟩)]
      exact ih hn.2 h
/-- a pair put at its key -/
def put (l : List (Str × α)) (k : Str) (v : α) : List (Str × α) := l.map fun p => if p.1 = k then (p.1, v) else p
theorem put_keys (l : List (Str × α)) (k : Str) (v : α) : (put l k v).map (·.1) = l.map (·.1) := by
  unfold put
  rw [List.map_map]
  apply List.map_congr_left
  intro p _
  by_cases h : p.1 = k <;> simp [h]
theorem look_put (l : List (Str × α)) (k j : Str) (v : α) : look (put l k v) j = if j = k then (look l j).map (fun _ => v) else look l j := by
  induction l with
  | nil => by_cases h : j = k <;> simp [h, put, look]
  | cons p l ih =>
    show look ((if p.1 = k then (p.1, v) else p) :: put l k v) j = _
    rw [look_cons, look_cons, ih]
    by_cases h1 : p.1 = k
    · rw [if_pos h1]
      by_cases h2 : p.1 = j
      · have : j = k := h2.symm.trans h1
        simp [h2, this]
      · simp [h2]
    · rw [if_neg h1]
      by_cases h2 : p.1 = j
      · have : ¬ j = k := fun z => h1 (h2.trans z)
        simp [h2, this]
      · simp [h2]
theorem putD_map (e : α → D) (l : List (Str × α)) (k : Str) (v : α) (h : k ∈ l.map (·.1)) : putD (l.map fun p => (p.1, e p.2)) k (e v) = (put l k v).map fun p => (p.1, e p.2) := by
  unfold putD
  rw [if_pos]
  · unfold put
    rw [List.map_map, List.map_map]
    apply List.map_congr_left
    intro p _
    by_cases h : p.1 = k <;> simp [h]
  · obtain ⟨p, hp, q⟩ := List.mem_map.mp h
    exact List.any_eq_true.mpr ⟨(p.1, e p.2), List.mem_map.mpr ⟨p, hp, rfl⟩, decide_eq_true q⟩
end
theorem thg_name {m : Mo} {k : Str} {t : Thing} (h : thg m k = some t) : t.name = k := by
  unfold thg at h
  have q := List.find?_some h
  exact of_decide_eq_true q
theorem thg_mem {m : Mo} {k : Str} {t : Thing} (h : thg m k = some t) : t ∈ m.things := by
  unfold thg at h
  exact List.mem_of_find?_eq_some h
theorem thg_some {m : Mo} {k : Str} (h : k ∈ m.things.map (·.name)) : ∃ t, thg m k = some t := by
  cases e : thg m k with
  | some t => exact ⟨t, rfl⟩
  | none =>
    obtain ⟨t, ht, q⟩ := List.mem_map.mp h
    exact absurd (decide_eq_true q) (List.find?_eq_none.mp e t ht)
theorem thg_of_mem {m : Mo} (hn : (m.things.map (·.name)).Nodup) {t : Thing} (h : t ∈ m.things) : thg m t.name = some t := by
  unfold thg
  generalize m.things = l at hn h
  induction l with
  | nil => cases h
  | cons a l ih =>
    rw [List.map_cons, List.nodup_cons] at hn
    rw [List.find?_cons]
    rcases List.mem_cons.mp h with e | h
    · rw [← e]
      simp
    · have : ¬ a.name = t.name := fun z => hn.1 (by rw [z]; exact List.mem_map.mpr ⟨_, h, rfl⟩)
      simp [this]
      exact ih hn.2 h

/-! ### where: equality, as the library's data -/
theorem eqvS (x y : Str) : PyData.eqv (.str x) (.str y) = decide (x = y) := by
  simp only [PyData.eqv]
  exact Bool.beq_eq_decide_eq ..
theorem eqv_wh (a b : Wh) : PyData.eqv a.d.py b.d.py = decide (a = b) := by
  have h1 : ¬ (("at" : Str) = "in") := by decide +kernel
  have h2 : ¬ (("at" : Str) = "on") := by decide +kernel
  have h3 : ¬ (("in" : Str) = "on") := by decide +kernel
  have h4 : ¬ (("with" : Str) = "nowhere") := by decide +kernel
  cases a <;> cases b <;> simp [Wh.d, D.py, D.pyL, PyData.eqv, PyData.eqvAll, h1, h2, h3, h4, Ne.symm h1, Ne.symm h2, Ne.symm h3, Ne.symm h4, Bool.beq_eq_decide_eq]
def Wh.ok : Wh → Bool
  | .at_ p => PyData.strOk p
  | .in_ h => PyData.strOk h
  | .on_ h => PyData.strOk h
  | _ => true
theorem Wh.pl (w : Wh) : w.d.pl = true := by cases w <;> rfl
theorem depth_wh (w : Wh) : PyData.depth w.d.py = 1 := by cases w <;> simp [Wh.d, D.py, D.pyL, PyData.depth, PyData.depthAll]
theorem canLay_wh {w : Wh} (h : w.ok = true) : PyData.canLay0 w.d.py = true := by
  have h1 : PyData.strOk "at" = true := by decide +kernel
  have h2 : PyData.strOk "in" = true := by decide +kernel
  have h3 : PyData.strOk "on" = true := by decide +kernel
  have h4 : PyData.strOk "with" = true := by decide +kernel
  have h5 : PyData.strOk "nowhere" = true := by decide +kernel
  cases w <;> simp [Wh.d, D.py, D.pyL, PyData.canLay0, PyData.canLayAll0, h1, h2, h3, h4, h5] <;> exact h
theorem shaped_wh {w : Wh} (h : w.ok = true) : SeqAt.shaped w.d.py = true := by
  unfold SeqAt.shaped
  rw [canLay_wh h, depth_wh]
  decide
theorem pyL_wh : ∀ ws : List Wh, D.pyL (ws.map Wh.d) = ws.map fun w => w.d.py
  | [] => by simp [D.pyL]
  | w :: ws => by simp [D.pyL, pyL_wh ws]
theorem plL_wh : ∀ ws : List Wh, D.plL (ws.map Wh.d) = true
  | [] => by simp [D.plL]
  | w :: ws => by simp [D.plL, plL_wh ws, Wh.pl]
theorem canLayL_wh : ∀ {ws : List Wh}, (∀ w, w ∈ ws → w.ok = true) → PyData.canLayAll0 (ws.map fun w => w.d.py) = true
  | [], _ => by simp [PyData.canLayAll0]
  | w :: ws, h => by
    simp only [List.map_cons, PyData.canLayAll0, Bool.and_eq_true]
    exact ⟨canLay_wh (h w (by simp)), canLayL_wh fun x hx => h x (by simp [hx])⟩
theorem depthL_wh : ∀ ws : List Wh, PyData.depthAll (ws.map fun w => w.d.py) ≤ 1
  | [] => by simp [PyData.depthAll]
  | w :: ws => by
    have := depthL_wh ws
    simp only [List.map_cons, PyData.depthAll, depth_wh]
    omega
theorem shapedL_wh {ws : List Wh} (h : ∀ w, w ∈ ws → w.ok = true) : SeqAt.shaped (.list (D.pyL (ws.map Wh.d))) = true := by
  unfold SeqAt.shaped
  rw [pyL_wh]
  have h1 : PyData.canLay0 (.list (ws.map fun w => w.d.py)) = true := by
    simp only [PyData.canLay0]
    exact canLayL_wh h
  have h2 := depthL_wh ws
  rw [h1, Bool.true_and, decide_eq_true_eq]
  simp only [PyData.depth]
  omega
theorem any_wh (w : Wh) : ∀ ws : List Wh, ((D.pyL (ws.map Wh.d)).any fun z => PyData.eqv z w.d.py) = decide (w ∈ ws)
  | [] => by simp [D.pyL]
  | x :: ws => by
    have ih := any_wh w ws
    simp only [List.map_cons, D.pyL, List.any_cons, ih, eqv_wh]
    by_cases h : x = w
    · subst h; simp
    · have h' : ¬ w = x := fun z => h z.symm
      simp [h, h']
section
variable {K : PySem.W.Frag} {a b : Wh} {ws : List Wh}
theorem rd_eqW (ha : a.ok = true) (hb : b.ok = true) : RD (rEqD K) a.d b.d (.bl (decide (a = b))) := rd_eqD a.pl b.pl (shaped_wh ha) (shaped_wh hb) (eqv_wh a b)
theorem rd_neW (ha : a.ok = true) (hb : b.ok = true) : RD (rNeD K) a.d b.d (.bl (!decide (a = b))) := rd_neD a.pl b.pl (shaped_wh ha) (shaped_wh hb) (eqv_wh a b)
theorem rd_inW (ha : a.ok = true) (hb : ∀ w, w ∈ ws → w.ok = true) : RD (rInD K) a.d (.lst (ws.map Wh.d)) (.bl (decide (a ∈ ws))) := rd_inD a.pl (plL_wh ws) (shaped_wh ha) (shapedL_wh hb) (any_wh a ws)
end

/-! ### the places where things are -/
inductive Chain (l : List (Str × Wh)) : Wh → List (Bool × Str) → Wh → Prop where
  | at_ (p : Str) : Chain l (.at_ p) [] (.at_ p)
  | with_ : Chain l .with_ [] .with_
  | nowhere : Chain l .nowhere [] .nowhere
  | in_ {h : Str} {w r : Wh} {c : List (Bool × Str)} (e : look l h = some w) (k : Chain l w c r) : Chain l (.in_ h) ((true, h) :: c) r
  | on_ {h : Str} {w r : Wh} {c : List (Bool × Str)} (e : look l h = some w) (k : Chain l w c r) : Chain l (.on_ h) ((false, h) :: c) r
def chF (l : List (Str × Wh)) : Nat → Wh → List (Bool × Str) × Wh
  | 0, w => ([], w)
  | n + 1, .in_ h => (match look l h with
    | some w => ((true, h) :: (chF l n w).1, (chF l n w).2)
    | none => ([], .in_ h))
  | n + 1, .on_ h => (match look l h with
    | some w => ((false, h) :: (chF l n w).1, (chF l n w).2)
    | none => ([], .on_ h))
  | _ + 1, w => ([], w)
theorem Chain.chF {l : List (Str × Wh)} {w r : Wh} {c : List (Bool × Str)} (k : Chain l w c r) : ∀ n, c.length ≤ n → chF l n w = (c, r) := by
  induction k with
  | at_ p => intro n _; cases n <;> rfl
  | with_ => intro n _; cases n <;> rfl
  | nowhere => intro n _; cases n <;> rfl
  | in_ e k ih =>
    intro n hn
    cases n with
    | zero => simp at hn
    | succ n =>
      simp only [Wt.chF, e, ih n (by simpa using hn)]
  | on_ e k ih =>
    intro n hn
    cases n with
    | zero => simp at hn
    | succ n =>
      simp only [Wt.chF, e, ih n (by simpa using hn)]
theorem Chain.det {l : List (Str × Wh)} {w r r' : Wh} {c c' : List (Bool × Str)} (k : Chain l w c r) (k' : Chain l w c' r') : c = c' ∧ r = r' := by
  have h1 := k.chF (max c.length c'.length) (Nat.le_max_left ..)
  have h2 := k'.chF (max c.length c'.length) (Nat.le_max_right ..)
  rw [h1] at h2
  exact ⟨(Prod.mk.inj h2).1, (Prod.mk.inj h2).2⟩
end Wt

/-! WtN: what holds of worlds and states; the fields. -/
namespace Wt
open PySem PySem.Spec PyProof.Rows L2

def WordOk (x : Str) : Prop := 1 ≤ x.length ∧ x.length ≤ 8 ∧ PyData.strOk x = true
structure ThOk (t : Thing) : Prop where
  name : WordOk t.name
  noun : WordOk t.noun
  adjs : ∀ a, a ∈ t.adjs → WordOk a
  few : t.adjs.length ≤ 2
  traits : t.traits.length ≤ 8
  bx : ¬ (("box" : Str) ∈ t.traits ∧ ("stand" : Str) ∈ t.traits)
  trok : ∀ x, x ∈ t.traits → PyData.strOk x = true
  whok : t.whr.ok = true
def dirs : List Str := ["down", "east", "north", "south", "up", "west"]
def lidded (t : Thing) : Bool := decide (("box" : Str) ∈ t.traits) || decide (("door" : Str) ∈ t.traits)
abbrev Mo.names (m : Mo) : List Str := m.things.map (·.name)
abbrev Mo.pnames (m : Mo) : List Str := m.places.map (·.1)
/-- the world -/
structure WM (m : Mo) : Prop where
  tn : m.names.Nodup
  pn : m.pnames.Nodup
  sn : (m.states.map (·.1)).Nodup
  tl : m.things.length ≤ 12
  pl : m.places.length ≤ 8
  p1 : m.places ≠ []
  yl : m.ways.length ≤ 14
  sl : m.states.length ≤ 6
  tok : ∀ t, t ∈ m.things → ThOk t
  pok : ∀ p, p ∈ m.places → WordOk p.1
  ysrc : ∀ y, y ∈ m.ways → y.src ∈ m.pnames
  ydst : ∀ y, y ∈ m.ways → y.dst ∈ m.pnames
  ydir : ∀ y, y ∈ m.ways → y.dir ∈ dirs
  ydoor : ∀ y, y ∈ m.ways → y.door = "" ∨ ∃ t, t ∈ m.things ∧ t.name = y.door ∧ ("door" : Str) ∈ t.traits
  yu : (m.ways.map fun y => (y.src, y.dir)).Nodup
/-- a place where a thing may be -/
def WhOk (m : Mo) : Wh → Prop
  | .at_ p => p ∈ m.pnames
  | .in_ h => ∃ t, thg m h = some t ∧ ("box" : Str) ∈ t.traits
  | .on_ h => ∃ t, thg m h = some t ∧ ("stand" : Str) ∈ t.traits
  | .with_ => True
  | .nowhere => True
structure WF (m : Mo) (s : Sta) : Prop where
  wm : WM m
  wk : s.whs.map (·.1) = m.names
  ok : s.ops.map (·.1) = (m.things.filter lidded).map (·.name)
  wok : s.worn.map (·.1) = m.names
  nk : s.nums.map (·.1) = m.states.map (·.1)
  hk : s.here ∈ m.pnames
  wv : ∀ x w, look s.whs x = some w → WhOk m w
  dw : ∀ x t, thg m x = some t → ("door" : Str) ∈ t.traits → look s.whs x = some .nowhere
  ch : ∀ x w, look s.whs x = some w → ∃ c r, Chain s.whs w c r ∧ c.length ≤ 12

section
variable {m : Mo} {s : Sta} {x : Str} {w : Wh} {t : Thing}
theorem WM.nameOk (h : WM m) (hx : x ∈ m.names) : WordOk x := by
  obtain ⟨t, ht, e⟩ := List.mem_map.mp hx
  rw [← e]
  exact (h.tok t ht).name
theorem WM.pnameOk (h : WM m) (hx : x ∈ m.pnames) : WordOk x := by
  obtain ⟨t, ht, e⟩ := List.mem_map.mp hx
  rw [← e]
  exact h.pok t ht
theorem thg_in (h : thg m x = some t) : x ∈ m.names := List.mem_map.mpr ⟨t, thg_mem h, thg_name h⟩
theorem WF.wh (h : WF m s) (hx : x ∈ m.names) : ∃ w, look s.whs x = some w := look_some (by rw [h.wk]; exact hx)
theorem WF.worn_ (h : WF m s) (hx : x ∈ m.names) : ∃ b, look s.worn x = some b := look_some (by rw [h.wok]; exact hx)
theorem WF.wh_in (h : WF m s) (e : look s.whs x = some w) : x ∈ m.names := by
  rw [← h.wk]
  exact look_key e
theorem WF.whok (h : WF m s) (e : look s.whs x = some w) : w.ok = true := by
  have q := h.wv x w e
  cases w with
  | at_ p => exact (h.wm.pnameOk q).2.2
  | in_ b =>
    obtain ⟨t, ht, _⟩ := q
    exact (h.wm.nameOk (thg_in ht)).2.2
  | on_ b =>
    obtain ⟨t, ht, _⟩ := q
    exact (h.wm.nameOk (thg_in ht)).2.2
  | with_ => rfl
  | nowhere => rfl
theorem WM.placeOk (h : WM m) (hx : x ∈ m.pnames) : (Wh.at_ x).ok = true := (h.pnameOk hx).2.2
theorem WM.inOk (h : WM m) (hx : x ∈ m.names) : (Wh.in_ x).ok = true := (h.nameOk hx).2.2
theorem WM.onOk (h : WM m) (hx : x ∈ m.names) : (Wh.on_ x).ok = true := (h.nameOk hx).2.2
end

/-! ### fields by name -/
theorem lookup_no {fs : List (Str × D)} {k : Str} {keys : List Str} (h : fs.map (·.1) = keys) (n : (keys.contains k) = false) : fs.lookup k = none := by
  subst h
  induction fs with
  | nil => rfl
  | cons p fs ih =>
    obtain ⟨a, b⟩ := p
    rw [List.map_cons, List.contains_cons, Bool.or_eq_false_iff] at n
    rw [List.lookup_cons, n.1]
    exact ih n.2
theorem lookup_at {fs : List (Str × D)} {k : Str} {d : D} {keys : List Str} (i : Nat) (h : fs.map (·.1) = keys) (hk : keys.findIdx (fun x => k == x) = i) (e : fs[i]? = some (k, d)) : fs.lookup k = some d := by
  subst h
  induction fs generalizing i with
  | nil => simp at e
  | cons p fs ih =>
    obtain ⟨a, b⟩ := p
    rw [List.map_cons, List.findIdx_cons] at hk
    rw [List.lookup_cons]
    cases q : k == a with
    | true =>
      rw [q] at hk
      subst hk
      have e2 : (a, b) = (k, d) := Option.some.inj e
      rw [(Prod.mk.inj e2).2]
    | false =>
      rw [q] at hk
      subst hk
      exact ih _ e rfl
theorem valD_at {fs : List (Str × D)} {k : Str} {d : D} {keys : List Str} (i : Nat) (h : fs.map (·.1) = keys) (hk : keys.findIdx (fun x => k == x) = i) (e : fs[i]? = some (k, d)) : valD fs k = some d := by
  subst h
  induction fs generalizing i with
  | nil => simp at e
  | cons p fs ih =>
    obtain ⟨a, b⟩ := p
    rw [List.map_cons, List.findIdx_cons] at hk
    unfold valD at ih ⊢
    rw [List.find?_cons]
    cases q : k == a with
    | true =>
      rw [q] at hk
      subst hk
      have e2 : (a, b) = (k, d) := Option.some.inj e
      have e3 : a = k := (Prod.mk.inj e2).1
      simp [e3, (Prod.mk.inj e2).2]
    | false =>
      rw [q] at hk
      subst hk
      have e3 : ¬ a = k := fun z => by rw [z] at q; simp at q
      have e4 : decide ((a, b).1 = k) = false := decide_eq_false e3
      rw [e4]
      exact ih _ e rfl
def sKeys : List Str := ["tale", "rows", "rooms", "ways", "spot", "moment", "wheres", "lids", "dressed", "counts"]
def wKeys : List Str := ["told_places", "told_things", "told_ways", "told_states", "told_rules", "told_everies", "told_scenes", "told_ends"]
section
variable {S W : Addr} {m : Mo} {s : Sta}
theorem s_no {k : Str} (n : (sKeys.contains k) = false) : (sfs W m s).lookup k = none := lookup_no (keys := sKeys) rfl n
theorem w_no {k : Str} (n : (wKeys.contains k) = false) : (wfs m).lookup k = none := lookup_no (keys := wKeys) rfl n
theorem s_tale : (sfs W m s).lookup ("tale" : Str) = some (woD W m) := lookup_at (keys := sKeys) 0 rfl (by decide +kernel) rfl
theorem s_rows : (sfs W m s).lookup ("rows" : Str) = some (.dic (rowsD m.things)) := lookup_at (keys := sKeys) 1 rfl (by decide +kernel) rfl
theorem s_rooms : (sfs W m s).lookup ("rooms" : Str) = some (.dic (blsD m.places)) := lookup_at (keys := sKeys) 2 rfl (by decide +kernel) rfl
theorem s_ways : (sfs W m s).lookup ("ways" : Str) = some (.lst (m.ways.map Way.d)) := lookup_at (keys := sKeys) 3 rfl (by decide +kernel) rfl
theorem s_spot : (sfs W m s).lookup ("spot" : Str) = some (.str s.here) := lookup_at (keys := sKeys) 4 rfl (by decide +kernel) rfl
theorem s_moment : (sfs W m s).lookup ("moment" : Str) = some (.int s.turn) := lookup_at (keys := sKeys) 5 rfl (by decide +kernel) rfl
theorem s_wheres : (sfs W m s).lookup ("wheres" : Str) = some (.dic (whsD s.whs)) := lookup_at (keys := sKeys) 6 rfl (by decide +kernel) rfl
theorem s_lids : (sfs W m s).lookup ("lids" : Str) = some (.dic (blsD s.ops)) := lookup_at (keys := sKeys) 7 rfl (by decide +kernel) rfl
theorem s_dressed : (sfs W m s).lookup ("dressed" : Str) = some (.dic (blsD s.worn)) := lookup_at (keys := sKeys) 8 rfl (by decide +kernel) rfl
theorem s_counts : (sfs W m s).lookup ("counts" : Str) = some (.dic (numsD s.nums)) := lookup_at (keys := sKeys) 9 rfl (by decide +kernel) rfl
theorem w_places : (wfs m).lookup ("told_places" : Str) = some (.lst (m.places.map placeD)) := lookup_at (keys := wKeys) 0 rfl (by decide +kernel) rfl
theorem w_things : (wfs m).lookup ("told_things" : Str) = some (.lst (m.things.map Thing.d)) := lookup_at (keys := wKeys) 1 rfl (by decide +kernel) rfl
theorem w_ways : (wfs m).lookup ("told_ways" : Str) = some (.lst (m.ways.map Way.d)) := lookup_at (keys := wKeys) 2 rfl (by decide +kernel) rfl
theorem w_states : (wfs m).lookup ("told_states" : Str) = some (.lst (m.states.map strowD)) := lookup_at (keys := wKeys) 3 rfl (by decide +kernel) rfl
theorem w_rules : (wfs m).lookup ("told_rules" : Str) = some (.lst []) := lookup_at (keys := wKeys) 4 rfl (by decide +kernel) rfl
theorem w_everies : (wfs m).lookup ("told_everies" : Str) = some (.lst []) := lookup_at (keys := wKeys) 5 rfl (by decide +kernel) rfl
theorem w_scenes : (wfs m).lookup ("told_scenes" : Str) = some (.lst []) := lookup_at (keys := wKeys) 6 rfl (by decide +kernel) rfl
theorem w_ends : (wfs m).lookup ("told_ends" : Str) = some (.lst []) := lookup_at (keys := wKeys) 7 rfl (by decide +kernel) rfl
def moKeys : List Str := ["seed", "places", "things", "ways", "states"]
def owKeys : List Str := ["here", "turn", "where", "open", "worn", "numbers"]
end
section
variable {K : PySem.W.Frag} {mg : Str → Option Value} {S W : Addr} {m : Mo} {s : Sta} {ρ : Env} {te : TE} {i : Nat} {f : Str} {d : D}
theorem nS_of (T : Txt K mg S W) (h : (sKeys.contains f) = true) : NoAttr K S f := T.nS f (List.contains_iff_mem.mp h)
theorem nW_of (T : Txt K mg S W) (h : (wKeys.contains f) = true) : NoAttr K W f := T.nW f (List.contains_iff_mem.mp h)
/-- self.f -/
theorem ev_sf (T : Txt K mg S W) (h : EvD te ρ (stD S W m s)) (l : (sfs W m s).lookup f = some d) (hk : (sKeys.contains f) = true := by decide +kernel) : EvD (tFld K te f) ρ d := ev_fld T.clS (nS_of T hk) h l
theorem ev_wf (T : Txt K mg S W) (h : EvD te ρ (woD W m)) (l : (wfs m).lookup f = some d) (hk : (wKeys.contains f) = true := by decide +kernel) : EvD (tFld K te f) ρ d := ev_fld T.clW (nW_of T hk) h l
theorem ev_seed (h : EvD te ρ m.d) : EvD (tDGet te (tC (.str "seed"))) ρ (.int m.seed) := ev_dget h ev_str (valD_at (keys := moKeys) 0 rfl (by decide +kernel) rfl)
theorem ev_places (h : EvD te ρ m.d) : EvD (tDGet te (tC (.str "places"))) ρ (.lst (m.places.map placeD)) := ev_dget h ev_str (valD_at (keys := moKeys) 1 rfl (by decide +kernel) rfl)
theorem ev_things (h : EvD te ρ m.d) : EvD (tDGet te (tC (.str "things"))) ρ (.lst (m.things.map Thing.d)) := ev_dget h ev_str (valD_at (keys := moKeys) 2 rfl (by decide +kernel) rfl)
theorem ev_ways (h : EvD te ρ m.d) : EvD (tDGet te (tC (.str "ways"))) ρ (.lst (m.ways.map Way.d)) := ev_dget h ev_str (valD_at (keys := moKeys) 3 rfl (by decide +kernel) rfl)
theorem ev_states (h : EvD te ρ m.d) : EvD (tDGet te (tC (.str "states"))) ρ (.lst (m.states.map strowD)) := ev_dget h ev_str (valD_at (keys := moKeys) 4 rfl (by decide +kernel) rfl)
theorem ev_here (h : EvD te ρ s.d) : EvD (tDGet te (tC (.str "here"))) ρ (.str s.here) := ev_dget h ev_str (valD_at (keys := owKeys) 0 rfl (by decide +kernel) rfl)
theorem ev_turn (h : EvD te ρ s.d) : EvD (tDGet te (tC (.str "turn"))) ρ (.int s.turn) := ev_dget h ev_str (valD_at (keys := owKeys) 1 rfl (by decide +kernel) rfl)
theorem ev_where (h : EvD te ρ s.d) : EvD (tDGet te (tC (.str "where"))) ρ (.dic (whsD s.whs)) := ev_dget h ev_str (valD_at (keys := owKeys) 2 rfl (by decide +kernel) rfl)
theorem ev_open (h : EvD te ρ s.d) : EvD (tDGet te (tC (.str "open"))) ρ (.dic (blsD s.ops)) := ev_dget h ev_str (valD_at (keys := owKeys) 3 rfl (by decide +kernel) rfl)
theorem ev_worn (h : EvD te ρ s.d) : EvD (tDGet te (tC (.str "worn"))) ρ (.dic (blsD s.worn)) := ev_dget h ev_str (valD_at (keys := owKeys) 4 rfl (by decide +kernel) rfl)
theorem ev_numbers (h : EvD te ρ s.d) : EvD (tDGet te (tC (.str "numbers"))) ρ (.dic (numsD s.nums)) := ev_dget h ev_str (valD_at (keys := owKeys) 5 rfl (by decide +kernel) rfl)
theorem val_wh {x : Str} {w : Wh} (h : look s.whs x = some w) : valD (whsD s.whs) x = some w.d := by
  unfold whsD
  rw [valD_map Wh.d, h]
  rfl
theorem val_bl {l : List (Str × Bool)} {x : Str} {b : Bool} (h : look l x = some b) : valD (blsD l) x = some (.bl b) := by
  unfold blsD
  rw [valD_map D.bl, h]
  rfl
theorem val_num {l : List (Str × Int)} {x : Str} {b : Int} (h : look l x = some b) : valD (numsD l) x = some (.int b) := by
  unfold numsD
  rw [valD_map D.int, h]
  rfl
theorem val_row {x : Str} {t : Thing} (h : thg m x = some t) : valD (rowsD m.things) x = some t.d := by
  rw [valD_rows]
  unfold thg at h
  rw [h]
  rfl
/-- the lengths of arguments -/
theorem SpD.len {F : List D → D → Prop} {n : Nat} (h : ∀ ds d, F ds d → ds.length = n) : ∀ (vs : List V) (H : Hp) (Q : VK) (E : XK), SpD F vs H Q E → vs.length = n := fun vs H Q E ⟨O, ds, d, hd, hm, hf, _⟩ => hm.length.trans (h ds d hf)
theorem SpN.len {F : List D → List D → Prop} {n : Nat} (h : ∀ ds d, F ds d → ds.length = n) : ∀ (vs : List V) (H : Hp) (Q : VK) (E : XK), SpN F vs H Q E → vs.length = n := fun vs H Q E ⟨O, ds, d, hd, hm, hf, _⟩ => hm.length.trans (h ds d hf)
theorem SpM.len {F : List D → List (Str × D) → Prop} {n : Nat} (h : ∀ ds d, F ds d → ds.length = n) : ∀ (vs : List V) (H : Hp) (Q : VK) (E : XK), SpM F vs H Q E → vs.length = n := fun vs H Q E ⟨O, ds, d, hd, hm, hf, _⟩ => hm.length.trans (h ds d hf)
theorem SpS.len {F : List D → (D → Prop) → Prop} {n : Nat} (h : ∀ ds d, F ds d → ds.length = n) : ∀ (vs : List V) (H : Hp) (Q : VK) (E : XK), SpS F vs H Q E → vs.length = n := fun vs H Q E ⟨O, ds, d, hd, hm, hf, _⟩ => hm.length.trans (h ds d hf)
end
end Wt

/-! WtE: further rules over plain data. -/
namespace Wt
open PySem PySem.Spec PyProof.Rows L2
section
variable {K : PySem.W.Frag} {ρ : Env} {ta tb tc te tl : TE} {tt : TT} {d x y z : D} {ds es : List D} {i j : Int} {a b : Str} {ss : List Str} {O : Mask} {H H' : Hp}
theorem ev_ty {n : String} : EvD (tC (.ty n)) ρ (.ty n) := fun O σ H hd hr Q q => q _ H (Same.refl H) (.ty n)
def D.tyn : D → Option String
  | .non => some "NoneType"
  | .bl _ => some "bool"
  | .int _ => some "int"
  | .str _ => some "str"
  | .lst _ => some "list"
  | .tup _ => some "tuple"
  | .dic _ => some "dict"
  | _ => none
theorem Dm.tyx {v : V} {t : String} (h : Dm O H v d) (e : d.tyn = some t) : TyX K H v (.type t) := by
  cases h with
  | non => cases e; exact .base .non
  | bl b => cases e; exact .base (.bl b)
  | int b => cases e; exact .base (.int b)
  | str b => cases e; exact .base (.str b)
  | ty n => cases e
  | lst n h r => cases e; exact .base (.lst h)
  | tup n h r => cases e; exact .base (.tup h)
  | dic n h r =>
    cases e
    rcases h with h | ⟨o, h⟩
    · exact .base (.dK h)
    · exact .fDict h
  | obj n h r => cases e
theorem cd_isi {t n : String} {r : Bool} (e : d.tyn = some t) (h : kitB t n = some r) : CD (rIsi K) [d, .ty n] (.bl r) := fun O H vs hd m Q q => by
  cases m with
  | cons m1 m2 =>
    cases m2 with
    | cons m2 m3 =>
      cases m3
      cases m2
      exact ⟨_, _, _, _, r, rfl, .ty n, m1.tyx e, kit_ty h, q _ H (Same.refl H) (.bl r)⟩
/-- isinstance(x, (list, tuple)) -/
theorem cd_isiT {t : String} {r r1 r2 : Bool} (e : d.tyn = some t) (h1 : kitB t "list" = some r1) (h2 : kitB t "tuple" = some r2) (hr : (r1 || r2) = r) : CD (rIsiT K) [d, .tup [.ty "list", .ty "tuple"]] (.bl r) := fun O H vs hd m Q q => by
  cases m with
  | cons m1 m2 =>
    cases m2 with
    | cons m2 m3 =>
      cases m3
      cases m2 with
      | tup n eh q2 =>
        cases q2 with
        | cons q2 q3 =>
          cases q3 with
          | cons q3 q4 =>
            cases q4
            cases q2
            cases q3
            refine ⟨_, _, _, _, [.type "list", .type "tuple"], r, rfl, eh, .cons (.ty _) (.cons (.ty _) .nil), m1.tyx e, ?_, q _ H (Same.refl H) (.bl r)⟩
            refine kitAny_cons (kit_ty h1) (fun z => ?_) (fun z => ?_)
            · rw [z] at hr
              refine kitAny_cons (kit_ty h2) (fun y => ?_) (fun y => ?_)
              · rw [y] at hr
                rw [← hr]
                rfl
              · rw [y] at hr
                rw [← hr]
                rfl
            · rw [z] at hr
              rw [← hr]
              rfl
/-- list(d) -/
theorem DmK.keysV : ∀ {vs : List (Key × V)} {kvs : List (Str × D)}, DmK O H vs kvs → (vs.map fun kv => kV kv.1) = (kvs.map (·.1)).map V.str
  | _, _, .nil => rfl
  | _, _, .cons h r => by
    rw [List.map_cons, List.map_cons, List.map_cons, r.keysV]
    rfl
theorem cn_listD {kvs : List (Str × D)} : CN rListDR [.dic kvs] ((kvs.map (·.1)).map .str) := fun O H vs hd h Q q => by
  cases h with
  | cons h1 h2 =>
    cases h2
    cases h1 with
    | dic n e r => exact ⟨_, _, rfl, e, fun l n => q l _ _ n (Same.new n) upd_same (by rw [r.keysV]; exact DmL.ofStrs _)⟩
theorem cd_lenD {kvs : List (Str × D)} : CD rLenR [.dic kvs] (.int (kvs.length : Int)) := fun O H vs hd h Q q => by
  cases h with
  | cons h1 h2 =>
    cases h2
    cases h1 with
    | dic n e r => exact ⟨_, _, rfl, e, by rw [r.length]; exact q _ H (Same.refl H) (.int _)⟩
theorem DmK.valsV : ∀ {vs : List (Key × V)} {kvs : List (Str × D)}, DmK O H vs kvs → DmL O H (vs.map (·.2)) (kvs.map (·.2))
  | _, _, .nil => .nil
  | _, _, .cons h r => .cons h r.valsV
theorem DmK.getK : ∀ {vs : List (Key × V)} {kvs : List (Str × D)}, DmK O H vs kvs → ∀ {i : Nat} {k : Key} {v : V}, vs[i]? = some (k, v) → ∃ s d, kvs[i]? = some (s, d) ∧ k = Sum.inr s
  | _, _, .nil, i, k, v, e => by simp at e
  | _, _, .cons (s := s) (d := d) h r, 0, k, v, e => ⟨s, d, rfl, (Prod.mk.inj (Option.some.inj e)).1.symm⟩
  | _, _, .cons h r, i + 1, k, v, e => r.getK (i := i) e
theorem en_listVals {kvs : List (Str × D)} (h : EvD te ρ (.dic kvs)) : EvN (tListVals te) ρ (kvs.map (·.2)) := fun O σ H hd hz Q q => h O σ H hd hz _ fun v H1 s1 m1 => by
  cases m1 with
  | dic n e r => exact ⟨_, _, rfl, e, fun l n => q l _ _ (s1.free n) (s1.trans (Same.new n)) upd_same ((DmL.fresh r.valsV n).new n)⟩
theorem cn_sortedT (hl : ss.length < 64) : CN (rSortedST K) [.tup (ss.map .str)] ((srt ss).map .str) := fun O H vs hd h Q q => by
  cases h with
  | cons h1 h2 =>
    cases h2
    cases h1 with
    | tup n e r =>
      have er := r.strs
      subst er
      refine ⟨_, ss, rfl, SqT.of e, hl, fun ys p pm so n => q p _ _ n (Same.new n) upd_same ?_⟩
      rw [srt_eq pm (sorted_pw so)]
      exact DmL.ofStrs ys
theorem DmL.rev : ∀ {vs : List V} {ds : List D}, DmL O H vs ds → DmL O H vs.reverse ds.reverse
  | _, _, .nil => .nil
  | _, _, .cons h r => by
    rw [List.reverse_cons, List.reverse_cons]
    exact r.rev.snoc h
theorem en_slStep (h : EvD te ρ (.lst ds)) (hc : EvD tc ρ (.int i)) (hi : i = 1 ∨ i = -1) : EvN (tSlStep K te tc) ρ (if i = 1 then ds else ds.reverse) := fun O σ H hd hz Q q => h O σ H hd hz _ fun v H1 s1 m1 => hc O σ H1 (hd.same s1) (hz.same s1) _ fun w H2 s2 m2 => by
  cases m2
  have m3 := m1.same s2
  cases m3 with
  | lst n e r =>
    refine ⟨i, rfl, _, _, rfl, SqL.of e, ?_⟩
    rcases hi with hi | hi
    · subst hi
      exact .inl ⟨rfl, fun p np => q p _ _ ((s1.trans s2).free np) ((s1.trans s2).trans (Same.new np)) upd_same (by rw [if_pos rfl]; exact (DmL.fresh r np).new np)⟩
    · subst hi
      exact .inr ⟨rfl, fun p np => q p _ _ ((s1.trans s2).free np) ((s1.trans s2).trans (Same.new np)) upd_same (by rw [if_neg (by decide)]; exact (DmL.fresh r.rev np).new np)⟩
theorem rd_repT (hne : ds ≠ []) (hi : i = 0 ∨ i = 1) : RD (rRepT2 K) (.tup ds) (.int i) (.tup (if i = 1 then ds else [])) := fun O H vx vy hd h1 h2 Q q => by
  have h1' := h1
  cases h2
  cases h1 with
  | tup n e r =>
    refine ⟨_, i, _, rfl, rfl, SqT.of e, fun z => hne (by rw [z] at r; cases r; rfl), ?_⟩
    rcases hi with hi | hi
    · subst hi
      exact .inl ⟨rfl, fun p np => q _ _ (Same.new np) (by rw [if_neg (by decide)]; exact .tup (hd.not np) upd_same .nil)⟩
    · subst hi
      exact .inr ⟨rfl, q _ H (Same.refl H) (by rw [if_pos rfl]; exact h1')⟩
theorem rd_repS {r : Bool} (hl : a.length ≤ 1000) : RD rRepS (.str a) (.int (if r then 1 else 0)) (.str (if r then a else Str.empty)) := fun O H vx vy hd h1 h2 Q q => by
  cases h1
  cases h2
  refine ⟨a, _, rfl, rfl, ?_⟩
  cases r with
  | true => exact .inr ⟨rfl, hl, q _ H (Same.refl H) (.str _)⟩
  | false => exact .inl ⟨rfl, q _ H (Same.refl H) (.str _)⟩
theorem rd_neE {kvs : List (Str × D)} : RD rNeE (.dic kvs) (.dic []) (.bl (!kvs.isEmpty)) := fun O H vx vy hd h1 h2 Q q => by
  cases h1 with
  | dic n e r =>
    cases h2 with
    | dic n2 e2 r2 =>
      cases r2
      refine ⟨_, _, _, rfl, rfl, e, e2, ?_⟩
      have ee : ∀ {vs : List (Key × V)} {kvs : List (Str × D)}, DmK O H vs kvs → vs.isEmpty = kvs.isEmpty := fun h => by cases h <;> rfl
      rw [ee r]
      exact q _ H (Same.refl H) (.bl _)
theorem em_empty : EvM tDNewK ρ [] := fun O σ H hd hz Q q => fun p n => q p [] _ n (Same.new n) upd_same .nil

/-! a comprehension over a dict's keys -/
theorem lc_frz {αx : Type} {kvs : List (Str × D)} {vs : List (Key × V)} {d0 : Addr} {od : Obj} {jx : Nat} {σ : L2.St} {HL : Hp} {Q : VK} (c : Str → Bool) (ed : Str → D) (hd : Dom O HL) (hr : Rz O ρ σ HL) (he : HL d0 = some (.frz od (.dK vs))) (hk : DmK O HL vs kvs) (hz : kvs.length < 100000)
    (ht : ∀ k, k ∈ kvs.map (·.1) → EvT tt ((wipeE ρ [jx]).set jx (some (.str k))) (c k)) (hee : ∀ k, k ∈ kvs.map (·.1) → c k = true → EvD te ((wipeE ρ [jx]).set jx (some (.str k))) (ed k))
    (q : ∀ p xs H2, HL p = none → Same HL H2 → H2 p = some (.lst xs) → DmL (O.and p) H2 xs (((kvs.map (·.1)).filter c).map ed) → Q (.ref p) H2) :
    ∀ Dl, HL Dl = none → ∃ W : Nat → Nat → Hp → Prop, (∃ m, W 0 m (upd HL Dl (.lst []))) ∧ ∀ i m H, W i m H →
      ((Itk d0 od vs).stop i H ∧ Q (.ref Dl) H) ∨ ((Itk d0 od vs).go i H ∧ ∃ Nx : Hp → Prop, (∀ H', Nx H' → ∃ m', m' < m ∧ W (i + 1) m' H') ∧ ∀ x H', (Itk d0 od vs).yld i H x H' → gName jx x (L2.wipe σ [jx]) H' fun σ2 H2 => L2.wipe σ2 [jx] = L2.wipe σ [jx] ∧ tt σ2 H2 fun b H3 =>
        if b = true then te σ2 H3 fun y H4 => ∃ acc, H4 Dl = some (.lst acc) ∧ acc.length < sizeLine ∧ Nx (upd H4 Dl (.lst (acc ++ [y]))) else Nx H3) := by
  intro Dl nD
  have hl : vs.length = kvs.length := hk.length
  refine ⟨fun i m H => m = vs.length - i ∧ i ≤ vs.length ∧ ∃ ys, Same HL H ∧ H Dl = some (.lst ys) ∧ DmL (O.and Dl) H ys ((((kvs.map (·.1)).take i).filter c).map ed), ⟨_, rfl, Nat.zero_le _, [], Same.new nD, upd_same, .nil⟩, ?_⟩
  rintro i m H ⟨rfl, hi, ys, sa, e1, mm⟩
  by_cases hlt : i < vs.length
  · refine .inr ⟨⟨sa _ _ he, hlt⟩, fun H => i + 1 ≤ vs.length ∧ ∃ ys, Same HL H ∧ H Dl = some (.lst ys) ∧ DmL (O.and Dl) H ys ((((kvs.map (·.1)).take (i + 1)).filter c).map ed), fun H' z => ⟨vs.length - (i + 1), by omega, rfl, z.1, z.2⟩, fun x H' y => ?_⟩
    obtain ⟨rfl, k, v, hkv, rfl⟩ := y
    obtain ⟨s, d, hsd, rfl⟩ := hk.getK hkv
    have hs : (kvs.map (·.1))[i]? = some s := by rw [List.getElem?_map, hsd]; rfl
    have ms := List.mem_of_getElem? hs
    have ft := filter_take c (kvs.map (·.1)) hs
    refine lc_turn (K := []) (f := fun ρ => ρ.set jx (some (.str s))) hd hr nD sa e1 mm (.str s) tg_name (Nat.lt_of_le_of_lt ?_ hz) (ht s ms) (hee s ms) (fun hc H5 zs s5 e5 m5 => ⟨hlt, zs, s5, e5, ?_⟩) (fun hc H5 s5 e5 m5 => ⟨hlt, ys, s5, e5, ?_⟩)
    · rw [List.length_map]
      exact Nat.le_trans (List.length_filter_le ..) (by rw [List.length_take, List.length_map]; exact Nat.min_le_right ..)
    · rw [ft, if_pos hc, List.map_append]
      exact m5
    · rw [ft, if_neg (by rw [hc]; decide), List.append_nil]
      exact m5
  · have e : i = vs.length := by omega
    subst e
    refine .inl ⟨⟨sa _ _ he, Nat.le_refl _⟩, ?_⟩
    rw [List.take_of_length_le (by rw [List.length_map, hl]; exact Nat.le_refl _)] at mm
    exact q Dl ys H nD sa e1 mm
/-- a path: it changes nothing, and leads to the same thing while its data is kept -/
def EvP (te : TE) (ρ : Env) (d : D) : Prop := ∀ (O : Mask) (σ : L2.St) (H : Hp), Rz O ρ σ H → ∃ v, Dm O H v d ∧ ∀ H', Kp O H H' → ∀ Q : VK, Q v H' → te σ H' Q
theorem ep_var {i : Nat} (h : ρ[i]? = some (some d)) : EvP (tVar i) ρ d := fun O σ H hr =>
  let ⟨v, h1, h2⟩ := hr.at_ i d h
  ⟨v, h2, fun H' _ Q q => ⟨v, h1, q⟩⟩
theorem ep_fld {C : Addr} {fs : List (Str × D)} {f : Str} (hc : Cls K C) (hn : NoAttr K C f) (h : EvP ta ρ (.obj C fs)) (hl : fs.lookup f = some d) : EvP (tFld K ta f) ρ d := fun O σ H hr => by
  obtain ⟨v, m, run⟩ := h O σ H hr
  cases m with
  | obj n e r =>
    obtain ⟨w, h1, h2⟩ := r.look hl
    exact ⟨w, h2, fun H' kp Q q => run H' kp _ ⟨_, C, _, _, w, rfl, kp.obj _ _ _ _ n e, hc, hn, h1, q⟩⟩
theorem ep_dget {kvs : List (Str × D)} {k : Str} (h : EvP ta ρ (.dic kvs)) (hv : valD kvs k = some d) : EvP (tDGet ta (tC (.str k))) ρ d := fun O σ H hr => by
  obtain ⟨v, m, run⟩ := h O σ H hr
  cases m with
  | dic n e r =>
    obtain ⟨w, h1, h2⟩ := r.val hv
    exact ⟨w, h2, fun H' kp Q q => run H' kp _ ⟨_, w, rfl, .inl ⟨_, .inr k, kp.dic _ _ n e, rfl, h1.symm⟩, q⟩⟩
theorem en_lcK {kvs : List (Str × D)} {td : TE} {jx : Nat} (c : Str → Bool) (ed : Str → D) (h : EvP td ρ (.dic kvs)) (hz : kvs.length < 100000)
    (ht : ∀ k, k ∈ kvs.map (·.1) → EvT tt ((wipeE ρ [jx]).set jx (some (.str k))) (c k)) (hee : ∀ k, k ∈ kvs.map (·.1) → c k = true → EvD te ((wipeE ρ [jx]).set jx (some (.str k))) (ed k)) :
    EvN (tLockO (tLc (iKeys td) (gName jx) tt te [jx])) ρ (((kvs.map (·.1)).filter c).map ed) := by
  intro O σ H hd hr Q q
  obtain ⟨v, m, run⟩ := h O σ H hr
  cases m with
  | dic n e r =>
    rename_i a vs
    rcases e with e | ⟨o, e⟩
    · refine .inl ⟨a, .dK vs, e, trivial, fun od => ?_⟩
      have ne : ∀ {b : Addr} {u : HO}, H b = some u → u ≠ .dK vs → b ≠ a := fun h1 h2 z => by
        rw [z, e] at h1
        exact h2 (Option.some.inj h1).symm
      have kp : Kp O H (upd H a (.frz od (.dK vs))) := ⟨fun b xs _ h1 => by rw [upd_ne (ne h1 (fun z => by cases z))]; exact h1, fun b xs _ h1 => by rw [upd_ne (ne h1 (fun z => by cases z))]; exact h1, fun b kv _ h1 => by
        by_cases hb : b = a
        · subst hb
          rcases h1 with h1 | ⟨o, h1⟩
          · rw [e] at h1
            cases h1
            exact .inr ⟨od, upd_same⟩
          · rw [e] at h1
            cases h1
        · rcases h1 with h1 | ⟨o, h1⟩
          · exact .inl (by rw [upd_ne hb]; exact h1)
          · exact .inr ⟨o, by rw [upd_ne hb]; exact h1⟩, fun b C dx ws _ h1 => by rw [upd_ne (ne h1 (fun z => by cases z))]; exact h1⟩
      have hdL : Dom O (upd H a (.frz od (.dK vs))) := fun b z y => by
        by_cases hb : b = a
        · subst hb
          rw [upd_same] at y
          cases y
        · rw [upd_ne hb] at y
          exact hd b z y
      refine run _ kp _ ⟨a, od, rfl, .inl ⟨vs, upd_same, lc_frz (αx := Nat) (Q := fun v H' => H' a = some (.frz od (.dK vs)) ∧ Q v (upd H' a (.dK vs))) c ed hdL (hr.kp kp fun b z => .inl z) upd_same (DmK.kp kp (fun b z => .inl z) r) hz ht hee fun p xs H2 np s2 e2 m2 => ?_⟩⟩
      have npa : p ≠ a := fun z => by
        rw [z, upd_same] at np
        cases np
      have ea := s2 _ _ (upd_same (H := H) (a := a) (o := HO.frz od (.dK vs)))
      refine ⟨ea, q p xs _ (by rw [upd_ne npa] at np; exact np) (fun b u h1 => ?_) (by rw [upd_ne npa]; exact e2) (DmL.kp (H := H2) ⟨fun b xs _ h1 => ?_, fun b xs _ h1 => ?_, fun b kv _ h1 => ?_, fun b C dx ws _ h1 => ?_⟩ (fun b z => .inl z) m2)⟩
      · by_cases hb : b = a
        · subst hb
          rw [e] at h1
          cases h1
          exact upd_same
        · rw [upd_ne hb]
          exact s2 _ _ (by rw [upd_ne hb]; exact h1)
      · rw [upd_ne fun z => by rw [z, ea] at h1; cases h1]
        exact h1
      · rw [upd_ne fun z => by rw [z, ea] at h1; cases h1]
        exact h1
      · by_cases hb : b = a
        · subst hb
          rcases h1 with h1 | ⟨o, h1⟩
          · rw [ea] at h1
            cases h1
          · rw [ea] at h1
            cases h1
            exact .inl upd_same
        · rcases h1 with h1 | ⟨o, h1⟩
          · exact .inl (by rw [upd_ne hb]; exact h1)
          · exact .inr ⟨o, by rw [upd_ne hb]; exact h1⟩
      · rw [upd_ne fun z => by rw [z, ea] at h1; cases h1]
        exact h1
    · exact .inr (run H (.same (Same.refl H)) _ ⟨a, o, rfl, .inl ⟨vs, e, lc_frz (αx := Nat) c ed hd hr e r hz ht hee q⟩⟩)
end
end Wt

/-! WtS: what the program's defs compute, on typed data. -/
namespace Wt
open PySem PySem.Spec PyProof.Rows L2

def hasT (m : Mo) (x tr : Str) : Bool := match thg m x with
  | some t => decide (tr ∈ t.traits)
  | none => false
def darkF (m : Mo) (p : Str) : Bool := (look m.places p).getD false
def doorsF (m : Mo) (p : Str) : List Str := m.names.filter fun x => decide (x ∈ (m.ways.filter fun y => decide (p ∈ [y.src, y.dst])).map (·.door))
def opn (s : Sta) (h : Str) : Bool := (look s.ops h).getD false
def whF (s : Sta) (x : Str) : Wh := (look s.whs x).getD .nowhere
def chn (s : Sta) (x : Str) : List (Bool × Str) × Wh := chF s.whs 13 (whF s x)
def rootF (s : Sta) (x : Str) : Wh := (chn s x).2
def shutF (s : Sta) (x : Str) : List Str := ((chn s x).1.filter fun p => p.1 && !opn s p.2).map (·.2)
def hidF (m : Mo) (s : Sta) (x : Str) : Bool := ((shutF s x).map fun b => !hasT m b "clear").any id
def rootsL (s : Sta) (p : Str) : List Wh := Wh.at_ p :: if s.here = p then [Wh.with_] else []
def litX (m : Mo) (s : Sta) (p x : Str) : Bool := (hasT m x "lit" && !hidF m s x) && (decide (x ∈ doorsF m p) || decide (rootF s x ∈ rootsL s p))
def litF (m : Mo) (s : Sta) (p : Str) : Bool := !darkF m p || m.names.any (litX m s p)
def rootsS (s : Sta) (lit : Bool) : List Wh := Wh.with_ :: if lit then [Wh.at_ s.here] else []
def seenX (m : Mo) (s : Sta) (lit : Bool) (x : Str) : Bool := decide (x ∈ (if lit then doorsF m s.here else [])) || (decide (rootF s x ∈ rootsS s lit) && !hidF m s x)
def seenF (m : Mo) (s : Sta) : List Str := m.names.filter (seenX m s (litF m s s.here))
def wordsT (t : Thing) : Str := Txt.join " " (t.adjs ++ [t.noun])
def wordsF (m : Mo) (x : Str) : Str := match thg m x with
  | some t => wordsT t
  | none => Str.empty
def vowel (x : Str) : Bool := match x.cps.toList[0]? with
  | some c => decide (c ∈ ("aeiou" : Str).cps.toList)
  | none => false
def theF (m : Mo) (x : Str) : Str := ("the " : Str) ++ wordsF m x
def aF (m : Mo) (x : Str) : Str := (if vowel (wordsF m x) then ("an " : Str) else "a ") ++ wordsF m x
def joinP (xs : List Str) (w : Str) : Str := if xs.length < 2 then Txt.join Str.empty xs else Txt.join ", " xs.dropLast ++ " " ++ w ++ " " ++ (xs.getLast?.getD Str.empty)
def wayT (s : Sta) (y : Way) : Str := y.dir ++ (if (!decide (y.door = Str.empty) && !opn s y.door) then (" (shut)" : Str) else Str.empty)
def waysP (m : Mo) (s : Sta) : List Str := (m.ways.filter fun y => decide (y.src = s.here)).map (wayT s)
noncomputable def waysLineP (m : Mo) (s : Sta) : List Str := if waysP m s = [] then [] else [("Ways: " : Str) ++ Txt.join ", " (srt (waysP m s)) ++ "."]
def heldP (s : Sta) (holder : Str) (seen : List Str) : List Str := seen.filter fun x => decide (whF s x ∈ [Wh.in_ holder, Wh.on_ holder])
def isIn : Wh → Bool
  | .in_ _ => true
  | _ => false
def heldLineP (m : Mo) (s : Sta) (holder : Str) (seen : List Str) : List Str := match heldP s holder seen with
  | [] => []
  | x :: r => [(if isIn (whF s x) then ("In " : Str) else "On ") ++ theF m holder ++ ": " ++ joinP ((x :: r).map (aF m)) "and" ++ "."]
def lyingP (m : Mo) (s : Sta) : List Str := (seenF m s).filter (fun x => decide (whF s x = .at_ s.here)) ++ doorsF m s.here
noncomputable def lookP (m : Mo) (s : Sta) : List Str := if litF m s s.here then
    ([s.here ++ "."] ++ waysLineP m s) ++ (if lyingP m s = [] then [] else [("Here: " : Str) ++ joinP ((lyingP m s).map (aF m)) "and" ++ "."]) ++ (seenF m s).flatMap (fun h => heldLineP m s h (seenF m s))
  else ["It is dark."]
def mineP (m : Mo) (s : Sta) : List Str := m.names.filter fun x => decide (whF s x = .with_)
def wornF (s : Sta) (x : Str) : Bool := (look s.worn x).getD false
def holdP (m : Mo) (s : Sta) : List Str :=
  let held := (mineP m s).filter fun x => !wornF s x
  let worn := (mineP m s).filter fun x => wornF s x
  let rows := (if held = [] then [] else [("You hold " : Str) ++ joinP (held.map (aF m)) "and" ++ "."]) ++ (if worn = [] then [] else [("You wear " : Str) ++ joinP (worn.map (aF m)) "and" ++ "."])
  if rows = [] then ["You have nothing."] else rows

/-! ### relations: the promises -/
section
variable (S W : Addr)
def F_need : List D → D → Prop := fun ds d => ∃ m s x, WF m s ∧ ds = [stD S W m s, .str x] ∧ x ∈ m.names ∧ d = .non
def F_has : List D → D → Prop := fun ds d => ∃ m s x tr, WF m s ∧ ds = [stD S W m s, .str x, .str tr] ∧ x ∈ m.names ∧ d = .bl (hasT m x tr)
def F_dark : List D → D → Prop := fun ds d => ∃ m s p, WF m s ∧ ds = [stD S W m s, .str p] ∧ p ∈ m.pnames ∧ d = .bl (darkF m p)
def F_doors : List D → List D → Prop := fun ds es => ∃ m s p, WF m s ∧ ds = [stD S W m s, .str p] ∧ p ∈ m.pnames ∧ es = (doorsF m p).map .str
def F_all : List D → List D → Prop := fun ds es => ∃ m s, WF m s ∧ ds = [stD S W m s] ∧ es = m.names.map .str
def F_here : List D → D → Prop := fun ds d => ∃ m s, WF m s ∧ ds = [stD S W m s] ∧ d = .str s.here
def F_turn : List D → D → Prop := fun ds d => ∃ m s, WF m s ∧ ds = [stD S W m s] ∧ d = .int s.turn
def F_where : List D → D → Prop := fun ds d => ∃ m s x, WF m s ∧ ds = [stD S W m s, .str x] ∧ x ∈ m.names ∧ d = (whF s x).d
def F_isopen : List D → D → Prop := fun ds d => ∃ m s x, WF m s ∧ ds = [stD S W m s, .str x] ∧ x ∈ m.names ∧ d = .bl (opn s x)
def F_isworn : List D → D → Prop := fun ds d => ∃ m s x, WF m s ∧ ds = [stD S W m s, .str x] ∧ x ∈ m.names ∧ d = .bl (wornF s x)
def F_num : List D → D → Prop := fun ds d => ∃ m s x n, WF m s ∧ ds = [stD S W m s, .str x] ∧ look s.nums x = some n ∧ d = .int n
def F_hhas : List D → D → Prop := fun ds d => ∃ m s x tr, WF m s ∧ ds = [stD S W m s, .str x, .str tr] ∧ x ∈ m.names ∧ d = .bl (hasT m x tr)
def F_iswh : List D → D → Prop := fun ds d => ∃ m s w, WF m s ∧ ds = [stD S W m s, w.d] ∧ WhOk m w ∧ d = .bl true
def F_ring : List D → D → Prop := fun ds d => ∃ m s x w c r, WF m s ∧ ds = [stD S W m s, .str x, w.d] ∧ Chain s.whs w c r ∧ x ∉ c.map (·.2) ∧ d = .bl false
def F_chain : List D → List D → Prop := fun ds es => ∃ m s x, WF m s ∧ ds = [stD S W m s, .str x] ∧ x ∈ m.names ∧ es = ((chn s x).1.map (·.2)).map .str
def F_root : List D → D → Prop := fun ds d => ∃ m s x, WF m s ∧ ds = [stD S W m s, .str x] ∧ x ∈ m.names ∧ d = (rootF s x).d
def F_shut : List D → List D → Prop := fun ds es => ∃ m s x, WF m s ∧ ds = [stD S W m s, .str x] ∧ x ∈ m.names ∧ es = (shutF s x).map .str
def F_hid : List D → D → Prop := fun ds d => ∃ m s x, WF m s ∧ ds = [stD S W m s, .str x] ∧ x ∈ m.names ∧ d = .bl (hidF m s x)
def F_lit : List D → D → Prop := fun ds d => ∃ m s p, WF m s ∧ ds = [stD S W m s, .str p] ∧ p ∈ m.pnames ∧ d = .bl (litF m s p)
def F_seen : List D → List D → Prop := fun ds es => ∃ m s, WF m s ∧ ds = [stD S W m s] ∧ es = (seenF m s).map .str
/-- World.told's tuple -/
def toldD (m : Mo) : D := .tup [.lst (m.places.map placeD), .lst (m.things.map Thing.d), .lst (m.ways.map Way.d), .lst (m.states.map strowD), .lst [], .lst [], .lst [], .lst []]
def F_wtold : List D → D → Prop := fun ds d => ∃ m, WM m ∧ ds = [woD W m] ∧ d = toldD m
def F_words : List D → D → Prop := fun ds d => ∃ m x, WM m ∧ ds = [woD W m, .str x] ∧ x ∈ m.names ∧ d = .str (wordsF m x)
def F_the : List D → D → Prop := fun ds d => ∃ m x, WM m ∧ ds = [woD W m, .str x] ∧ x ∈ m.names ∧ d = .str (theF m x)
def F_a : List D → D → Prop := fun ds d => ∃ m x, WM m ∧ ds = [woD W m, .str x] ∧ x ∈ m.names ∧ d = .str (aF m x)
def Short (xs : List Str) : Prop := xs.length ≤ 40 ∧ ∀ x, x ∈ xs → x.length ≤ 1000
def F_joinby : List D → D → Prop := fun ds d => ∃ xs w, Short xs ∧ w.length ≤ 100 ∧ ds = [.lst (xs.map .str), .str w] ∧ d = .str (joinP xs w)
def F_join : List D → D → Prop := fun ds d => ∃ xs, Short xs ∧ ds = [.lst (xs.map .str)] ∧ d = .str (joinP xs "and")
def F_waysl : List D → List D → Prop := fun ds es => ∃ m s, WF m s ∧ ds = [woD W m, stD S W m s] ∧ es = (waysLineP m s).map .str
def F_heldl : List D → List D → Prop := fun ds es => ∃ m s h, WF m s ∧ ds = [woD W m, stD S W m s, .str h, .lst ((seenF m s).map .str)] ∧ h ∈ m.names ∧ es = (heldLineP m s h (seenF m s)).map .str
def F_look : List D → List D → Prop := fun ds es => ∃ m s, WF m s ∧ ds = [woD W m, stD S W m s] ∧ es = (lookP m s).map .str
def F_hold : List D → List D → Prop := fun ds es => ∃ m s, WF m s ∧ ds = [woD W m, stD S W m s] ∧ es = (holdP m s).map .str
end
/-- a class that makes instances -/
structure CalC (P : Program) (w : World) (K : PySem.W.Frag) (mg : Str → Option Value) (base : Heap) (C : Addr) (k : Nat) (ps : List Str) (sp : Sp) : Prop where
  ex : ∃ f fd, FnOk P w K mg base CX0 k f fd ps sp ∧ Mk K C f ∧ Binds K fd ps []

/-! ### small facts -/
section
variable {m : Mo} {s : Sta} {x : Str} {w : Wh}
theorem WF.whF (h : WF m s) (hx : x ∈ m.names) : look s.whs x = some (whF s x) := by
  obtain ⟨w, e⟩ := h.wh hx
  unfold Wt.whF
  rw [e]
  rfl
theorem WF.chain (h : WF m s) (hx : x ∈ m.names) : Chain s.whs (Wt.whF s x) (chn s x).1 (rootF s x) ∧ (chn s x).1.length ≤ 12 := by
  obtain ⟨c, r, k, hl⟩ := h.ch x _ (h.whF hx)
  have e := k.chF 13 (by omega)
  unfold rootF chn
  rw [e]
  exact ⟨k, hl⟩
theorem WF.chain_in (h : WF m s) {w r : Wh} {c : List (Bool × Str)} (k : Chain s.whs w c r) : ∀ p, p ∈ c → p.2 ∈ m.names := by
  induction k with
  | at_ p => intro p hp; cases hp
  | with_ => intro p hp; cases hp
  | nowhere => intro p hp; cases hp
  | in_ e k ih =>
    intro p hp
    rcases List.mem_cons.mp hp with q | hp
    · rw [q]
      exact h.wh_in e
    · exact ih p hp
  | on_ e k ih =>
    intro p hp
    rcases List.mem_cons.mp hp with q | hp
    · rw [q]
      exact h.wh_in e
    · exact ih p hp
theorem thgF (h : x ∈ m.names) (tr : Str) : ∃ t, thg m x = some t ∧ hasT m x tr = decide (tr ∈ t.traits) := by
  obtain ⟨t, e⟩ := thg_some h
  exact ⟨t, e, by unfold hasT; rw [e]⟩
theorem val_worn (h : WF m s) (hx : x ∈ m.names) : valD (blsD s.worn) x = some (.bl (wornF s x)) := by
  obtain ⟨b, e⟩ := h.worn_ hx
  rw [val_bl e]
  unfold wornF
  rw [e]
  rfl
theorem rows_keys (m : Mo) : (rowsD m.things).map (·.1) = m.names := by
  unfold rowsD
  rw [List.map_map]
  rfl
theorem rows_len (m : Mo) : (rowsD m.things).length = m.things.length := by
  unfold rowsD
  rw [List.length_map]
theorem bls_keys (l : List (Str × Bool)) : (blsD l).map (·.1) = l.map (·.1) := by
  unfold blsD
  rw [List.map_map]
  rfl
theorem whs_keys (l : List (Str × Wh)) : (whsD l).map (·.1) = l.map (·.1) := by
  unfold whsD
  rw [List.map_map]
  rfl
theorem filter_strs (c : Str → Bool) (l : List Str) : (l.filter c).map D.str = (l.filter c).map D.str := rfl
end
end Wt

/-! WtH: helpers for the walks. -/
namespace Wt
open PySem PySem.Spec PyProof.Rows L2

def tagW : Wh → Str
  | .at_ _ => "at"
  | .in_ _ => "in"
  | .on_ _ => "on"
  | .with_ => "with"
  | .nowhere => "nowhere"
def isHeld : Wh → Bool
  | .in_ _ => true
  | .on_ _ => true
  | _ => false
theorem tg_at : decide (("at" : Str) ∈ (["in", "on"] : List Str)) = false := by decide +kernel
theorem tg_in : decide (("in" : Str) ∈ (["in", "on"] : List Str)) = true := by decide +kernel
theorem tg_on : decide (("on" : Str) ∈ (["in", "on"] : List Str)) = true := by decide +kernel
theorem tg_with : decide (("with" : Str) ∈ (["in", "on"] : List Str)) = false := by decide +kernel
theorem tg_nowhere : decide (("nowhere" : Str) ∈ (["in", "on"] : List Str)) = false := by decide +kernel
theorem ti_at : decide (("at" : Str) = "in") = false := by decide +kernel
theorem ti_in : decide (("in" : Str) = "in") = true := by decide +kernel
theorem ti_on : decide (("on" : Str) = "in") = false := by decide +kernel
theorem ti_with : decide (("with" : Str) = "in") = false := by decide +kernel
theorem ti_nowhere : decide (("nowhere" : Str) = "in") = false := by decide +kernel
theorem held_dec (w : Wh) : decide (tagW w ∈ (["in", "on"] : List Str)) = isHeld w := by
  cases w
  · exact tg_at
  · exact tg_in
  · exact tg_on
  · exact tg_with
  · exact tg_nowhere
theorem isIn_dec (w : Wh) : decide (tagW w = "in") = isIn w := by
  cases w
  · exact ti_at
  · exact ti_in
  · exact ti_on
  · exact ti_with
  · exact ti_nowhere
def linkW (p : Bool × Str) : Wh := if p.1 then .in_ p.2 else .on_ p.2
def wAt (c : List (Bool × Str)) (r : Wh) (i : Nat) : Wh := ((c.map linkW)[i]?).getD r
section
variable {l : List (Str × Wh)} {w r : Wh} {c : List (Bool × Str)}
theorem wAt_0 (k : Chain l w c r) : wAt c r 0 = w := by cases k <;> rfl
theorem wAt_n : wAt c r c.length = r := by
  unfold wAt
  rw [List.getElem?_eq_none (by rw [List.length_map]; exact Nat.le_refl _)]
  rfl
theorem wAt_i {i : Nat} {p : Bool × Str} (h : c[i]? = some p) : wAt c r i = linkW p := by
  unfold wAt
  rw [List.getElem?_map, h]
  rfl
theorem Chain.next (k : Chain l w c r) : ∀ {i : Nat} {p : Bool × Str}, c[i]? = some p → look l p.2 = some (wAt c r (i + 1)) := by
  induction k with
  | at_ p => intro i p h; simp at h
  | with_ => intro i p h; simp at h
  | nowhere => intro i p h; simp at h
  | in_ e k ih =>
    intro i p h
    cases i with
    | zero =>
      have e2 : _ = p := Option.some.inj h
      rw [← e2, e]
      exact congrArg some (wAt_0 k).symm
    | succ i => exact ih h
  | on_ e k ih =>
    intro i p h
    cases i with
    | zero =>
      have e2 : _ = p := Option.some.inj h
      rw [← e2, e]
      exact congrArg some (wAt_0 k).symm
    | succ i => exact ih h
theorem Chain.root (k : Chain l w c r) : isHeld r = false := by
  induction k with
  | at_ p => rfl
  | with_ => rfl
  | nowhere => rfl
  | in_ e k ih => exact ih
  | on_ e k ih => exact ih
theorem isHeld_link (p : Bool × Str) : isHeld (linkW p) = true := by
  obtain ⟨b, x⟩ := p
  cases b <;> rfl
end
section
variable {K : PySem.W.Frag} {ρ : Env} {te ta tb : TE} {d x y : D} {ds es : List D} {i : Int} {w : Wh} {S W : Addr} {m : Mo} {s : Sta}
theorem ev_tag (h : EvD te ρ w.d) : EvD (tOp (rIxT K) te (tC (.int 0))) ρ (.str (tagW w)) := by
  refine ev_op h ev_int (?_ : RD (rIxT K) w.d (.int 0) (.str (tagW w)))
  cases w <;> exact rd_ixT rfl
theorem ev_arg {p : Bool × Str} (h : EvD te ρ (linkW p).d) : EvD (tOp (rIxT K) te (tC (.int 1))) ρ (.str p.2) := by
  obtain ⟨b, z⟩ := p
  cases b
  · exact ev_op (x := (Wh.on_ z).d) h ev_int (rd_ixT rfl)
  · exact ev_op (x := (Wh.in_ z).d) h ev_int (rd_ixT rfl)
theorem ev_pair {a b : Str} (ha : EvD ta ρ (.str a)) (hb : EvD tb ρ (.str b)) : EvD (tTup (tCons ta (tCons tb tNil))) ρ (.tup [.str a, .str b]) := ev_tup (ea_cons ha (ea_cons hb ea_nil)) (by show 2 ≤ 100000; decide)
theorem ev_one {x : D} (ha : EvD ta ρ x) : EvD (tTup (tCons ta tNil)) ρ (.tup [x]) := ev_tup (ea_cons ha ea_nil) (by show 1 ≤ 100000; decide)
theorem ev_at {p : Str} (hb : EvD tb ρ (.str p)) : EvD (tTup (tCons (tC (.str "at")) (tCons tb tNil))) ρ (Wh.at_ p).d := ev_pair ev_str hb
theorem ev_with : EvD (tTup (tCons (tC (.str "with")) tNil)) ρ Wh.with_.d := ev_one ev_str
theorem ev_inp {p : Str} (hb : EvD tb ρ (.str p)) : EvD (tTup (tCons (tC (.str "in")) (tCons tb tNil))) ρ (Wh.in_ p).d := ev_pair ev_str hb
theorem ev_onp {p : Str} (hb : EvD tb ρ (.str p)) : EvD (tTup (tCons (tC (.str "on")) (tCons tb tNil))) ρ (Wh.on_ p).d := ev_pair ev_str hb
/-- where[0] in ("in", "on") -/
theorem et_held (h : EvD te ρ w.d) : EvT (tTest (tOp (rIn K false) (tOp (rIxT K) te (tC (.int 0))) (tTup (tCons (tC (.str "in")) (tCons (tC (.str "on")) tNil))))) ρ (isHeld w) :=
  (et_test (ev_op (ev_tag h) (ev_pair ev_str ev_str) (rd_inT (ss := ["in", "on"])))).is (held_dec w)
theorem et_notheld (h : EvD te ρ w.d) : EvT (tTest (tOp (rIn K true) (tOp (rIxT K) te (tC (.int 0))) (tTup (tCons (tC (.str "in")) (tCons (tC (.str "on")) tNil))))) ρ (!isHeld w) :=
  (et_test (ev_op (ev_tag h) (ev_pair ev_str ev_str) (rd_notInT (ss := ["in", "on"])))).is (congrArg _ (held_dec w))
/-- where[0] == "in" -/
theorem et_isin (h : EvD te ρ w.d) : EvT (tTest (tOp rEq (tOp (rIxT K) te (tC (.int 0))) (tC (.str "in")))) ρ (isIn w) := (et_test (ev_op (ev_tag h) ev_str rd_eqS)).is (isIn_dec w)
theorem ev_isin (h : EvD te ρ w.d) : EvD (tOp rEq (tOp (rIxT K) te (tC (.int 0))) (tC (.str "in"))) ρ (.bl (isIn w)) := (ev_op (ev_tag h) ev_str rd_eqS).is (congrArg D.bl (isIn_dec w))
theorem ev_neg (h : EvD te ρ (.int i)) : EvD (tUn (rU fun i => .int (-i)) te) ρ (.int (-i)) := fun O σ H hd hz Q q => h O σ H hd hz _ fun v H1 s1 m1 => by
  cases m1
  exact ⟨i, rfl, q _ H1 s1 (.int _)⟩
/-- a comprehension that keeps all -/
theorem en_map {α : Type} {g : TG} {js : List Nat} {tl : TE} (enc : α → D) (ts : List α) (f : α → Env → Env) (ed : α → D) (h : EvD tl ρ (.lst (ts.map enc))) (hz : ts.length < 100000) (tg : ∀ t, t ∈ ts → TgOk K g (enc t) (f t) js)
    (he : ∀ t, t ∈ ts → EvD te (f t (wipeE ρ js)) (ed t)) : EvN (tLc (iList K tl) g tYes te js) ρ (ts.map ed) := by
  have q := en_lc (K := K) (g := g) (js := js) (tt := tYes) enc ts f (fun _ => true) ed h hz tg (fun _ _ => et_yes) (fun t ht _ => he t ht)
  rw [List.filter_eq_self.mpr fun _ _ => rfl] at q
  exact q
theorem atI_lst {α : Type} {xs : List α} {a : α} (h : xs.getLast? = some a) : atI xs (-1) = some a := by
  obtain ⟨ys, rfl⟩ := List.getLast?_eq_some_iff.mp h
  exact atI_last ys a
theorem any_take {α : Type} (c : α → Bool) {ts : List α} {i : Nat} {t : α} (h : ts[i]? = some t) : (ts.take (i + 1)).any c = ((ts.take i).any c || c t) := by
  rw [List.take_add_one, h, List.any_append]
  simp
theorem any_of {α : Type} (c : α → Bool) {ts : List α} {t : α} (h : t ∈ ts) (e : c t = true) : ts.any c = true := List.any_eq_true.mpr ⟨t, h, e⟩
section
variable {O : Mask} {H0 H : Hp} {wn wn' : Own} {σ : L2.St} {D' : Ends} {t : TT} {b : Bool} {t1 t2 : TS} {ρ' : Env}
/-- if, both ways to one state -/
theorem s_ifJ (hd : Dom O H0) (h : EvTW wn t ρ b) (h1 : b = true → (∀ σ H, At O H0 ρ' wn' σ H → D'.nx σ H) → ∀ σ H, At O H0 ρ wn σ H → t1 D' σ H) (h2 : b = false → (∀ σ H, At O H0 ρ' wn' σ H → D'.nx σ H) → ∀ σ H, At O H0 ρ wn σ H → t2 D' σ H)
    (k : ∀ σ H, At O H0 ρ' wn' σ H → D'.nx σ H) (a : At O H0 ρ wn σ H) : tIfS t t1 t2 D' σ H := s_if hd h (fun z => h1 z k) (fun z => h2 z k) a
/-- if without else, something behind -/
theorem q_when (hd : Dom O H0) (h : EvTW wn t ρ b) (h1 : b = true → ∀ σ H, At O H0 ρ wn σ H → t1 { D' with nx := t2 D' } σ H) (h2 : b = false → ∀ σ H, At O H0 ρ wn σ H → t2 D' σ H) (a : At O H0 ρ wn σ H) : tSeq (tIfS t t1 tNext) t2 D' σ H := s_if (D' := { D' with nx := t2 D' }) hd h h1 h2 a
end
/-- a chained comparison of ints -/
theorem ev_chain {i j l : Int} {r r' : R2} {tc : TE} {b b' : Bool} (ha : EvD ta ρ (.int i)) (hb : EvD tb ρ (.int j)) (hc : EvD tc ρ (.int l)) (h1 : RD r (.int i) (.int j) (.bl b)) (h2 : RD r' (.int j) (.int l) (.bl b')) :
    EvD (tChain r r' ta tb tc) ρ (.bl (b && b')) := fun O σ H hd hz Q q => by
  refine ha O σ H hd hz _ fun v1 H1 s1 m1 => hb O σ H1 (hd.same s1) (hz.same s1) _ fun v2 H2 s2 m2 => ?_
  have hd2 := (hd.same s1).same s2
  refine h1 O H2 v1 v2 hd2 (m1.same s2) m2 _ fun v3 H3 s3 m3 => ?_
  cases m3
  refine ⟨b, rfl, ?_⟩
  cases b with
  | false => exact q _ H3 ((s1.trans s2).trans s3) (.bl _)
  | true =>
    show tc σ H3 _
    refine hc O σ H3 (hd2.same s3) (((hz.same s1).same s2).same s3) _ fun v4 H4 s4 m4 => ?_
    exact h2 O H4 v2 v4 ((hd2.same s3).same s4) ((m2.same s3).same s4) m4 _ fun v5 H5 s5 m5 => q v5 H5 ((((s1.trans s2).trans s3).trans s4).trans s5) m5
end
end Wt

/-! WtL: lengths and signs of texts; lists of texts. -/
namespace Wt
open PySem PySem.Spec PyProof.Rows L2

theorem len_app (a b : Str) : (a ++ b).length = a.length + b.length := Str.length_append a b
theorem ok_app {a b : Str} (ha : PyData.strOk a = true) (hb : PyData.strOk b = true) : PyData.strOk (a ++ b) = true := by
  unfold PyData.strOk at *
  have e : (a ++ b).cps = a.cps ++ b.cps := rfl
  rw [e, Array.all_append, ha, hb]
  rfl
theorem len_join (sep : Str) (xs : List Str) : (Txt.join sep xs).length = (xs.map (·.length)).sum + (xs.length - 1) * sep.length := size_glued sep xs
theorem join_str (sep : Str) (xs : List Str) : Txt.join sep xs = Str.join sep xs := StrLaws.glued_eq_join sep xs
theorem ok_join {sep : Str} (hs : PyData.strOk sep = true) : ∀ {xs : List Str}, (∀ x, x ∈ xs → PyData.strOk x = true) → PyData.strOk (Txt.join sep xs) = true := by
  intro xs h
  rw [join_str]
  induction xs with
  | nil => exact (by decide +kernel : PyData.strOk Str.empty = true)
  | cons x r ih =>
    cases r with
    | nil => exact h x (by simp)
    | cons y r => exact ok_app (ok_app (h x (by simp)) hs) (ih fun z hz => h z (by simp at hz ⊢; right; exact hz))
theorem sum_le (b : Nat) : ∀ (xs : List Str), (∀ x, x ∈ xs → x.length ≤ b) → (xs.map (·.length)).sum ≤ xs.length * b
  | [], _ => by simp
  | x :: r, h => by
    have h1 := h x (by simp)
    have h2 := sum_le b r fun z hz => h z (by simp [hz])
    rw [List.map_cons, List.sum_cons, List.length_cons, Nat.succ_mul]
    omega
theorem Short.sum {xs : List Str} (h : Short xs) : (xs.map (·.length)).sum ≤ 40000 := Nat.le_trans (sum_le 1000 xs h.2) (Nat.le_trans (Nat.mul_le_mul_right _ h.1) (by decide))
section
variable {m : Mo} {s : Sta} {x : Str} {t : Thing}
theorem wordsT_len (h : ThOk t) : 1 ≤ (wordsT t).length ∧ (wordsT t).length ≤ 40 := by
  unfold wordsT
  rw [len_join]
  have h1 := sum_le 8 t.adjs fun a ha => (h.adjs a ha).2.1
  have h2 := h.few
  have h3 := h.noun
  have e : (" " : Str).length = 1 := by decide +kernel
  rw [e, List.map_append, List.sum_append, List.length_append]
  simp only [List.map_cons, List.map_nil, List.sum_cons, List.sum_nil, List.length_cons, List.length_nil]
  have h4 := h3.1
  have h5 := h3.2.1
  have h6 : t.adjs.length * 8 ≤ 16 := by omega
  omega
theorem wordsT_ok (h : ThOk t) : PyData.strOk (wordsT t) = true := ok_join (by decide +kernel) fun x hx => by
  rcases List.mem_append.mp hx with hx | hx
  · exact (h.adjs x hx).2.2
  · rw [List.mem_singleton.mp hx]
    exact h.noun.2.2
theorem words_t (h : thg m x = some t) : wordsF m x = wordsT t := by
  unfold wordsF
  rw [h]
theorem words_len (h : WM m) (hx : x ∈ m.names) : 1 ≤ (wordsF m x).length ∧ (wordsF m x).length ≤ 40 := by
  obtain ⟨t, e⟩ := thg_some hx
  rw [words_t e]
  exact wordsT_len (h.tok t (thg_mem e))
theorem words_ok (h : WM m) (hx : x ∈ m.names) : PyData.strOk (wordsF m x) = true := by
  obtain ⟨t, e⟩ := thg_some hx
  rw [words_t e]
  exact wordsT_ok (h.tok t (thg_mem e))
theorem the_len (h : WM m) (hx : x ∈ m.names) : (theF m x).length ≤ 50 := by
  unfold theF
  rw [len_app]
  have e : ("the " : Str).length = 4 := by decide +kernel
  have := (words_len h hx).2
  omega
theorem a_len (h : WM m) (hx : x ∈ m.names) : (aF m x).length ≤ 50 := by
  unfold aF
  rw [len_app]
  have e1 : ("an " : Str).length = 3 := by decide +kernel
  have e2 : ("a " : Str).length = 2 := by decide +kernel
  have := (words_len h hx).2
  split <;> omega
theorem a_ok (h : WM m) (hx : x ∈ m.names) : PyData.strOk (aF m x) = true := by
  unfold aF
  refine ok_app ?_ (words_ok h hx)
  split <;> decide +kernel
end
theorem joinP_len {xs : List Str} {w : Str} (h : Short xs) (hw : w.length ≤ 100) : (joinP xs w).length ≤ 100000 := by
  unfold joinP
  have e0 : Str.empty.length = 0 := rfl
  have e1 : (", " : Str).length = 2 := by decide +kernel
  have e2 : (" " : Str).length = 1 := by decide +kernel
  have hs := h.sum
  have hl := h.1
  split
  · rw [len_join, e0]
    omega
  · rw [len_app, len_app, len_app, len_app, len_join, e1, e2]
    have h1 : ((xs.dropLast).map (·.length)).sum ≤ 40000 := by
      refine Short.sum ⟨by rw [List.length_dropLast]; omega, fun x hx => h.2 x (List.dropLast_subset _ hx)⟩
    have h2 : (xs.getLast?.getD Str.empty).length ≤ 1000 := by
      cases q : xs.getLast? with
      | none => exact Nat.zero_le _
      | some y => exact h.2 y (List.mem_of_getLast? q)
    rw [List.length_dropLast]
    omega
def F_truth : List D → D → Prop := fun ds d => ∃ b, ds = [.bl b] ∧ d = .bl true
theorem WF.rootok {m : Mo} {s : Sta} {x : Str} (wf : WF m s) (hx : x ∈ m.names) : (rootF s x).ok = true := by
  obtain ⟨hc, _⟩ := wf.chain hx
  cases e : (chn s x).1.getLast? with
  | none =>
    have h0 := wAt_0 hc
    rw [List.getLast?_eq_none_iff.mp e] at h0
    have h1 : rootF s x = Wt.whF s x := h0
    rw [h1]
    exact wf.whok (wf.whF hx)
  | some q =>
    obtain ⟨c, e2⟩ := List.getLast?_eq_some_iff.mp e
    have hq : (chn s x).1[c.length]? = some q := by rw [e2]; simp
    have hnx := hc.next hq
    have el : c.length + 1 = (chn s x).1.length := by rw [e2]; simp
    rw [el, wAt_n] at hnx
    exact wf.whok hnx
/-! lists of texts against the empty list -/
theorem pyL_strs : ∀ ss : List Str, D.pyL (ss.map D.str) = ss.map PyData.str
  | [] => by simp [D.pyL]
  | s :: r => by simp [D.pyL, D.py, pyL_strs r]
theorem plL_strs : ∀ ss : List Str, D.plL (ss.map D.str) = true
  | [] => by simp [D.plL]
  | s :: r => by simp [D.plL, D.pl, plL_strs r]
theorem canLay_strs : ∀ {ss : List Str}, (∀ x, x ∈ ss → PyData.strOk x = true) → PyData.canLayAll0 (ss.map PyData.str) = true
  | [], _ => by simp [PyData.canLayAll0]
  | s :: r, h => by
    simp only [List.map_cons, PyData.canLayAll0, PyData.canLay0, Bool.and_eq_true]
    exact ⟨h s (by simp), canLay_strs fun x hx => h x (by simp [hx])⟩
theorem depth_strs : ∀ ss : List Str, PyData.depthAll (ss.map PyData.str) = 0
  | [] => by simp [PyData.depthAll]
  | s :: r => by simp [PyData.depthAll, PyData.depth, depth_strs r]
theorem shaped_strs {ss : List Str} (h : ∀ x, x ∈ ss → PyData.strOk x = true) : SeqAt.shaped (D.lst (ss.map D.str)).py = true := by
  unfold SeqAt.shaped D.py
  rw [pyL_strs]
  simp only [PyData.canLay0, PyData.depth, canLay_strs h, depth_strs]
  rfl
theorem eqv_nil (ss : List Str) : PyData.eqv (D.lst (ss.map D.str)).py (D.lst []).py = ss.isEmpty := by
  cases ss <;> simp [D.py, D.pyL, PyData.eqv, PyData.eqvAll]
section
variable {K : PySem.W.Frag} {ss : List Str}
theorem rd_neNil (h : ∀ x, x ∈ ss → PyData.strOk x = true) : RD (rNeD K) (.lst (ss.map .str)) (.lst []) (.bl (!ss.isEmpty)) :=
  rd_neD (by unfold D.pl; exact plL_strs ss) rfl (shaped_strs h) (shaped_strs (ss := []) (fun _ z => nomatch z)) (eqv_nil ss)
theorem rd_eqNil (h : ∀ x, x ∈ ss → PyData.strOk x = true) : RD (rEqD K) (.lst (ss.map .str)) (.lst []) (.bl ss.isEmpty) :=
  rd_eqD (by unfold D.pl; exact plL_strs ss) rfl (shaped_strs h) (shaped_strs (ss := []) (fun _ z => nomatch z)) (eqv_nil ss)
end
theorem isEmpty_dec {α : Type} [DecidableEq α] (l : List α) : l.isEmpty = decide (l = []) := by cases l <;> simp
section
variable {m : Mo} {s : Sta} {x : Str}
theorem seen_sub (h : x ∈ seenF m s) : x ∈ m.names := (List.mem_filter.mp h).1
theorem seen_len (h : WM m) : (seenF m s).length ≤ 12 := by
  unfold seenF
  exact Nat.le_trans (List.length_filter_le ..) (by rw [List.length_map]; exact h.tl)
theorem doors_sub {p : Str} (h : x ∈ doorsF m p) : x ∈ m.names := (List.mem_filter.mp h).1
theorem doors_len (h : WM m) (p : Str) : (doorsF m p).length ≤ 12 := by
  unfold doorsF
  exact Nat.le_trans (List.length_filter_le ..) (by rw [List.length_map]; exact h.tl)
theorem names_ok (h : WM m) {l : List Str} (hl : ∀ x, x ∈ l → x ∈ m.names) : ∀ x, x ∈ l → PyData.strOk x = true := fun x hx => (h.nameOk (hl x hx)).2.2
theorem short_a (h : WM m) {l : List Str} (hl : ∀ x, x ∈ l → x ∈ m.names) (hn : l.length ≤ 40) : Short (l.map (aF m)) := ⟨by rw [List.length_map]; exact hn, fun x hx => by
  obtain ⟨y, hy, e⟩ := List.mem_map.mp hx
  rw [← e]
  exact Nat.le_trans (a_len h (hl y hy)) (by decide)⟩
theorem lying_sub (h : x ∈ lyingP m s) : x ∈ m.names := by
  unfold lyingP at h
  rcases List.mem_append.mp h with h | h
  · exact seen_sub (List.mem_filter.mp h).1
  · exact doors_sub h
theorem lying_len (h : WM m) : (lyingP m s).length ≤ 40 := by
  unfold lyingP
  rw [List.length_append]
  have h1 := seen_len (s := s) h
  have h2 := doors_len h s.here
  have h3 := List.length_filter_le (fun x => decide (whF s x = .at_ s.here)) (seenF m s)
  omega
theorem dir_len {x : Str} (h : x ∈ dirs) : x.length ≤ 5 := by
  have q : dirs.all (fun x => decide (x.length ≤ 5)) = true := by decide +kernel
  exact of_decide_eq_true (List.all_eq_true.mp q x h)
theorem dir_ok {x : Str} (h : x ∈ dirs) : PyData.strOk x = true := by
  have q : dirs.all (fun x => PyData.strOk x) = true := by decide +kernel
  exact List.all_eq_true.mp q x h
theorem srt_perm (xs : List Str) : (srt xs).Perm xs := by
  unfold srt
  split
  · rename_i h
    exact h.choose_spec.1
  · exact List.Perm.refl _
theorem ways_len (h : WM m) : (waysP m s).length ≤ 14 ∧ ∀ x, x ∈ waysP m s → x.length ≤ 20 := by
  unfold waysP
  refine ⟨by rw [List.length_map]; exact Nat.le_trans (List.length_filter_le ..) h.yl, fun x hx => ?_⟩
  obtain ⟨y, hy, e⟩ := List.mem_map.mp hx
  have h1 := dir_len (h.ydir y (List.mem_filter.mp hy).1)
  rw [← e]
  unfold wayT
  rw [len_app]
  have e : (" (shut)" : Str).length = 7 := by decide +kernel
  have e0 : Str.empty.length = 0 := rfl
  split <;> omega
theorem ways_ok (h : WM m) : ∀ x, x ∈ waysP m s → PyData.strOk x = true := fun x hx => by
  obtain ⟨y, hy, e⟩ := List.mem_map.mp hx
  rw [← e]
  unfold wayT
  refine ok_app (dir_ok (h.ydir y (List.mem_filter.mp hy).1)) ?_
  split <;> decide +kernel
end
end Wt

/-! WtS2: what the law's readers compute; the mathematics of it. -/
namespace Wt
open PySem PySem.Spec PyProof.Rows L2

def holdersF (m : Mo) : List Wh := m.things.flatMap fun t => (if ("box" : Str) ∈ t.traits then [Wh.in_ t.name] else []) ++ (if ("stand" : Str) ∈ t.traits then [Wh.on_ t.name] else [])
def freeF (m : Mo) (p : Str) : List Str := dirs.filter fun d => !decide (d ∈ (m.ways.filter fun y => decide (y.src = p)).map (·.dir))
/-- marks -/
abbrev Mk3 := Wh × Bool × Bool
def mkD (k : Mk3) : D := .tup [k.1.d, .bl k.2.1, .bl k.2.2]
def mksD (l : List (Str × Mk3)) : List (Str × D) := l.map fun p => (p.1, mkD p.2)
def putM (l : List (Str × Mk3)) (k : Str) (v : Mk3) : List (Str × Mk3) := if k ∈ l.map (·.1) then put l k v else l ++ [(k, v)]
theorem putM_D (l : List (Str × Mk3)) (k : Str) (v : Mk3) : putD (mksD l) k (mkD v) = mksD (putM l k v) := by
  unfold putM
  by_cases h : k ∈ l.map (·.1)
  · rw [if_pos h]
    exact putD_map mkD l k v h
  · rw [if_neg h]
    rw [putD_new]
    · unfold mksD
      rw [List.map_append]
      rfl
    · unfold mksD
      rw [List.map_map]
      exact h
theorem look_putM (l : List (Str × Mk3)) (k j : Str) (v : Mk3) : look (putM l k v) j = if j = k then some v else look l j := by
  unfold putM
  by_cases h : k ∈ l.map (·.1)
  · rw [if_pos h, look_put]
    by_cases e : j = k
    · rw [if_pos e, if_pos e]
      subst e
      obtain ⟨w, hw⟩ := look_some h
      rw [hw]
      rfl
    · rw [if_neg e, if_neg e]
  · rw [if_neg h]
    have : ∀ l' : List (Str × Mk3), look (l' ++ [(k, v)]) j = if look l' j = none then (if j = k then some v else none) else look l' j := fun l' => by
      induction l' with
      | nil =>
        show look [(k, v)] j = _
        rw [look_cons]
        by_cases e : j = k
        · simp [e, look]
        · have e' : ¬ k = j := fun z => e z.symm
          simp [e, e', look]
      | cons p r ih =>
        rw [List.cons_append, look_cons, look_cons, ih]
        by_cases e : p.1 = j <;> simp [e]
    rw [this]
    by_cases e : j = k
    · rw [if_pos e, if_pos e]
      subst e
      rw [look_none.mpr h]
      simp
    · rw [if_neg e, if_neg e]
      by_cases q : look l j = none
      · simp [q]
      · simp [q]
/-- one thing's turn -/
def mkStep (m : Mo) (s : Sta) (l : List (Str × Mk3)) (t : Thing) : List (Str × Mk3) := match whF s t.name with
  | .in_ h => (match look l h with
    | some k => putM l t.name (k.1, (k.2.1 || (!opn s h && !hasT m h "clear")), (k.2.2 || !opn s h))
    | none => l)
  | .on_ h => (match look l h with
    | some k => putM l t.name (k.1, k.2.1, k.2.2)
    | none => l)
  | w => putM l t.name (w, false, false)
def mkRound (m : Mo) (s : Sta) (l : List (Str × Mk3)) : List (Str × Mk3) := m.things.foldl (mkStep m s) l
def mkAll (m : Mo) (s : Sta) : Nat → List (Str × Mk3)
  | 0 => []
  | n + 1 => mkRound m s (mkAll m s n)
def MarkOk (m : Mo) (s : Sta) (l : List (Str × Mk3)) : Prop := ∀ x, x ∈ m.names → ∃ b, look l x = some (rootF s x, hidF m s x, b)
/-- the due mark -/
def keptF (s : Sta) (x : Str) : Bool := (shutF s x).any fun _ => true
def due (m : Mo) (s : Sta) (x : Str) : Mk3 := (rootF s x, hidF m s x, (shutF s x).any fun _ => true)
section
variable {m : Mo} {s : Sta}
theorem chn_of (wf : WF m s) {x : Str} {r : Wh} {c : List (Bool × Str)} (k : Chain s.whs (whF s x) c r) (hl : c.length ≤ 13) : chn s x = (c, r) := by
  unfold chn
  exact k.chF 13 hl
theorem due_stop (wf : WF m s) {x : Str} (hx : x ∈ m.names) (hh : isHeld (whF s x) = false) : due m s x = (whF s x, false, false) := by
  have e : chn s x = ([], whF s x) := by
    obtain ⟨hc, hl⟩ := wf.chain hx
    refine chn_of wf ?_ (by simp)
    cases q : whF s x with
    | at_ p => exact .at_ p
    | with_ => exact .with_
    | nowhere => exact .nowhere
    | in_ h => rw [q] at hh; cases hh
    | on_ h => rw [q] at hh; cases hh
  unfold due rootF hidF shutF
  rw [e]
  rfl
theorem chn_step (wf : WF m s) {x h : Str} {b : Bool} (hx : x ∈ m.names) (e : whF s x = linkW (b, h)) : h ∈ m.names ∧ chn s x = ((b, h) :: (chn s h).1, (chn s h).2) := by
  obtain ⟨hc, hl⟩ := wf.chain hx
  rw [e] at hc
  have main : ∀ {w : Wh} {c : List (Bool × Str)} {r : Wh}, Chain s.whs w c r → w = linkW (b, h) → ∃ w2 c2, look s.whs h = some w2 ∧ c = (b, h) :: c2 ∧ Chain s.whs w2 c2 r := by
    intro w c r k ew
    cases k with
    | at_ p => cases b <;> cases ew
    | with_ => cases b <;> cases ew
    | nowhere => cases b <;> cases ew
    | in_ e2 k2 =>
      cases b
      · cases ew
      · cases ew
        exact ⟨_, _, e2, rfl, k2⟩
    | on_ e2 k2 =>
      cases b
      · cases ew
        exact ⟨_, _, e2, rfl, k2⟩
      · cases ew
  obtain ⟨w2, c2, e2, ec, k2⟩ := main hc rfl
  have hh := wf.wh_in e2
  have ewh : whF s h = w2 := by unfold whF; rw [e2]; rfl
  have l2 : c2.length ≤ 12 := by
    rw [ec] at hl
    simp at hl
    omega
  have q2 := chn_of wf (x := h) (by rw [ewh]; exact k2) (by omega)
  refine ⟨hh, ?_⟩
  rw [q2, ← ec]
  exact chn_of wf (by rw [e]; exact hc) (by omega)
theorem due_in (wf : WF m s) {x h : Str} (hx : x ∈ m.names) (e : whF s x = .in_ h) : due m s x = ((due m s h).1, ((due m s h).2.1 || (!opn s h && !hasT m h "clear")), ((due m s h).2.2 || !opn s h)) := by
  obtain ⟨hh, ec⟩ := chn_step (b := true) wf hx e
  unfold due rootF hidF shutF
  rw [ec]
  cases ho : opn s h
  · simp [ho, Bool.or_comm]
  · simp [ho]
theorem due_on (wf : WF m s) {x h : Str} (hx : x ∈ m.names) (e : whF s x = .on_ h) : due m s x = due m s h := by
  obtain ⟨hh, ec⟩ := chn_step (b := false) wf hx e
  unfold due rootF hidF shutF
  rw [ec]
  simp
/-- what stands is right, and all up to a depth stand -/
structure MkInv (m : Mo) (s : Sta) (n : Nat) (l : List (Str × Mk3)) : Prop where
  right : ∀ x k, look l x = some k → x ∈ m.names ∧ k = due m s x
  deep : ∀ x, x ∈ m.names → (chn s x).1.length < n → ∃ k, look l x = some k
theorem mk_step (wf : WF m s) {l : List (Str × Mk3)} {t : Thing} (ht : t ∈ m.things) (h : ∀ x k, look l x = some k → x ∈ m.names ∧ k = due m s x) :
    (∀ x k, look (mkStep m s l t) x = some k → x ∈ m.names ∧ k = due m s x) ∧ (∀ x k, look l x = some k → ∃ k', look (mkStep m s l t) x = some k') ∧
    ((isHeld (whF s t.name) = false ∨ ∃ b y k, whF s t.name = linkW (b, y) ∧ look l y = some k) → ∃ k, look (mkStep m s l t) t.name = some k) := by
  have hx : t.name ∈ m.names := List.mem_map.mpr ⟨t, ht, rfl⟩
  have P : ∀ v, v = due m s t.name → (∀ x k, look (putM l t.name v) x = some k → x ∈ m.names ∧ k = due m s x) ∧ (∀ x k, look l x = some k → ∃ k', look (putM l t.name v) x = some k') ∧ ∃ k, look (putM l t.name v) t.name = some k := by
    intro v ev
    refine ⟨fun x k hk => ?_, fun x k hk => ?_, v, by rw [look_putM, if_pos rfl]⟩
    · rw [look_putM] at hk
      by_cases e : x = t.name
      · rw [if_pos e] at hk
        rw [e]
        exact ⟨hx, (Option.some.inj hk).symm.trans ev⟩
      · rw [if_neg e] at hk
        exact h x k hk
    · rw [look_putM]
      by_cases e : x = t.name
      · exact ⟨v, if_pos e⟩
      · exact ⟨k, by rw [if_neg e]; exact hk⟩
  have fin : ∀ {v : Mk3}, v = due m s t.name → mkStep m s l t = putM l t.name v → (∀ x k, look (mkStep m s l t) x = some k → x ∈ m.names ∧ k = due m s x) ∧ (∀ x k, look l x = some k → ∃ k', look (mkStep m s l t) x = some k') ∧
    ((isHeld (whF s t.name) = false ∨ ∃ b y k, whF s t.name = linkW (b, y) ∧ look l y = some k) → ∃ k, look (mkStep m s l t) t.name = some k) := fun ev em => by
    obtain ⟨a, b, c⟩ := P _ ev
    rw [em]
    exact ⟨a, b, fun _ => c⟩
  have stay : mkStep m s l t = l → ¬ (isHeld (whF s t.name) = false ∨ ∃ b y k, whF s t.name = linkW (b, y) ∧ look l y = some k) → (∀ x k, look (mkStep m s l t) x = some k → x ∈ m.names ∧ k = due m s x) ∧ (∀ x k, look l x = some k → ∃ k', look (mkStep m s l t) x = some k') ∧
    ((isHeld (whF s t.name) = false ∨ ∃ b y k, whF s t.name = linkW (b, y) ∧ look l y = some k) → ∃ k, look (mkStep m s l t) t.name = some k) := fun em no => by
    rw [em]
    exact ⟨h, fun x k hk => ⟨k, hk⟩, fun z => absurd z no⟩
  cases q : whF s t.name with
  | at_ p =>
    rw [← q]
    exact fin (v := (.at_ p, false, false)) (by rw [due_stop wf hx (by rw [q]; rfl), q]) (by unfold mkStep; rw [q])
  | with_ =>
    rw [← q]
    exact fin (v := (.with_, false, false)) (by rw [due_stop wf hx (by rw [q]; rfl), q]) (by unfold mkStep; rw [q])
  | nowhere =>
    rw [← q]
    exact fin (v := (.nowhere, false, false)) (by rw [due_stop wf hx (by rw [q]; rfl), q]) (by unfold mkStep; rw [q])
  | in_ y =>
    rw [← q]
    cases e : look l y with
    | none =>
      refine stay (by unfold mkStep; rw [q]; simp only [e]) fun z => ?_
      rw [q] at z
      rcases z with z | ⟨b, y2, k, e1, e2⟩
      · cases z
      · cases b
        · cases e1
        · cases e1
          rw [e] at e2
          cases e2
    | some k =>
      have hk := (h y k e).2
      exact fin (v := (k.1, (k.2.1 || (!opn s y && !hasT m y "clear")), (k.2.2 || !opn s y))) (by rw [due_in wf hx q, hk]) (by unfold mkStep; rw [q]; simp only [e])
  | on_ y =>
    rw [← q]
    cases e : look l y with
    | none =>
      refine stay (by unfold mkStep; rw [q]; simp only [e]) fun z => ?_
      rw [q] at z
      rcases z with z | ⟨b, y2, k, e1, e2⟩
      · cases z
      · cases b
        · cases e1
          rw [e] at e2
          cases e2
        · cases e1
    | some k =>
      have hk := (h y k e).2
      exact fin (v := (k.1, k.2.1, k.2.2)) (by rw [due_on wf hx q, hk]) (by unfold mkStep; rw [q]; simp only [e])
theorem mk_fold (wf : WF m s) {n : Nat} : ∀ (ts : List Thing) {l : List (Str × Mk3)}, (∀ t, t ∈ ts → t ∈ m.things) → MkInv m s n l →
    MkInv m s n (ts.foldl (mkStep m s) l) ∧ (∀ x k, look l x = some k → ∃ k', look (ts.foldl (mkStep m s) l) x = some k') ∧ ∀ t, t ∈ ts → (chn s t.name).1.length < n + 1 → ∃ k, look (ts.foldl (mkStep m s) l) t.name = some k
  | [], l, _, h => ⟨h, fun x k hk => ⟨k, hk⟩, fun t ht => by cases ht⟩
  | t :: ts, l, hs, h => by
    have ht := hs t (by simp)
    obtain ⟨a, b, c⟩ := mk_step wf ht h.right
    have inv : MkInv m s n (mkStep m s l t) := ⟨a, fun x hx hd => by
      obtain ⟨k, hk⟩ := h.deep x hx hd
      exact b x k hk⟩
    obtain ⟨i2, keep, new⟩ := mk_fold wf ts (fun u hu => hs u (by simp [hu])) inv
    refine ⟨i2, fun x k hk => ?_, fun u hu hd => ?_⟩
    · obtain ⟨k', hk'⟩ := b x k hk
      exact keep x k' hk'
    · rcases List.mem_cons.mp hu with e | hu
      · subst e
        have hx : u.name ∈ m.names := List.mem_map.mpr ⟨u, ht, rfl⟩
        have : ∃ k, look (mkStep m s l u) u.name = some k := by
          refine c ?_
          cases q : isHeld (whF s u.name) with
          | false => exact .inl rfl
          | true =>
            have : ∃ b y, whF s u.name = linkW (b, y) := by
              cases e : whF s u.name with
              | at_ p => rw [e] at q; cases q
              | with_ => rw [e] at q; cases q
              | nowhere => rw [e] at q; cases q
              | in_ y => exact ⟨true, y, rfl⟩
              | on_ y => exact ⟨false, y, rfl⟩
            obtain ⟨bb, y, e⟩ := this
            obtain ⟨hy, ec⟩ := chn_step wf hx e
            have hlen : (chn s y).1.length < n := by
              rw [ec] at hd
              simp at hd
              omega
            obtain ⟨k, hk⟩ := h.deep y hy hlen
            exact .inr ⟨bb, y, k, e, hk⟩
        obtain ⟨k, hk⟩ := this
        exact keep _ k hk
      · exact new u hu hd
theorem mk_all (wf : WF m s) : ∀ n, MkInv m s n (mkAll m s n)
  | 0 => ⟨fun x k hk => (by cases hk), fun x hx h => absurd h (Nat.not_lt_zero _)⟩
  | n + 1 => by
    obtain ⟨a, b, c⟩ := mk_fold wf m.things (fun t ht => ht) (mk_all wf n)
    refine ⟨a.right, fun x hx hd => ?_⟩
    obtain ⟨t, ht, e⟩ := List.mem_map.mp hx
    rw [← e] at hd ⊢
    exact c t ht hd
theorem markOk (wf : WF m s) : MarkOk m s (mkAll m s 13) := fun x hx => by
  obtain ⟨k, hk⟩ := (mk_all wf 13).deep x hx (by have := (wf.chain hx).2; omega)
  refine ⟨keptF s x, ?_⟩
  rw [hk, ((mk_all wf 13).right x k hk).2]
  rfl
theorem putM_len (l : List (Str × Mk3)) (k : Str) (v : Mk3) : (putM l k v).length ≤ l.length + 1 := by
  unfold putM put
  split <;> simp
end
end Wt

/-! WtS3: the ways' order, joined texts, the rows and their number. -/
namespace Wt
open PySem PySem.Spec PyProof.Rows L2

/-! ### the ways out -/
def lblsL (m : Mo) (s : Sta) (d : Str) : List Str := (m.ways.filter fun y => decide (y.src = s.here) && decide (y.dir = d)).map (wayT s)
def waysL (m : Mo) (s : Sta) : List Str := dirs.flatMap (lblsL m s)
theorem part_perm {α β : Type} (f : α → β) (g : α → Str) (L : List α) : ∀ (ds : List Str), ds.Nodup → (ds.flatMap fun d => (L.filter fun y => decide (g y = d)).map f).Perm ((L.filter fun y => decide (g y ∈ ds)).map f)
  | [], _ => by
    have e : L.filter (fun y => decide (g y ∈ ([] : List Str))) = [] := by simp
    rw [e]
    exact List.Perm.refl _
  | d :: ds, hn => by
    obtain ⟨h1, h2⟩ := List.nodup_cons.mp hn
    have ih := part_perm f g L ds h2
    have q := (List.filter_append_perm (fun y => decide (g y = d)) (L.filter fun y => decide (g y ∈ d :: ds))).map f
    rw [List.filter_filter, List.filter_filter, List.map_append] at q
    have e1 : (L.filter fun a => decide (g a = d) && decide (g a ∈ d :: ds)) = L.filter fun y => decide (g y = d) := by
      apply List.filter_congr
      intro y _
      by_cases h : g y = d <;> simp [h]
    have e2 : (L.filter fun a => !decide (g a = d) && decide (g a ∈ d :: ds)) = L.filter fun y => decide (g y ∈ ds) := by
      apply List.filter_congr
      intro y _
      by_cases h : g y = d
      · rw [h]
        simp [h1]
      · simp [h]
    rw [e1, e2] at q
    rw [List.flatMap_cons]
    exact (ih.append_left _).trans q
def fc (x : Str) : Nat := x.cps.toList.headD 0
theorem sle_fc {a b : Str} (ha : a.cps.toList ≠ []) (h : fc a < fc b) : sle a b := by
  unfold sle fc at *
  cases ea : a.cps.toList with
  | nil => exact absurd ea ha
  | cons x r =>
    cases eb : b.cps.toList with
    | nil =>
      rw [ea, eb] at h
      exact absurd h (Nat.not_lt_zero _)
    | cons y t =>
      rw [ea, eb] at h
      have h' : x < y := h
      intro z
      rw [List.cons_lt_cons_iff] at z
      omega
theorem fc_app {a b : Str} (h : a.cps.toList ≠ []) : fc (a ++ b) = fc a ∧ (a ++ b).cps.toList ≠ [] := by
  have e : (a ++ b).cps.toList = a.cps.toList ++ b.cps.toList := by
    have : (a ++ b).cps = a.cps ++ b.cps := rfl
    rw [this, Array.toList_append]
  unfold fc
  rw [e]
  cases q : a.cps.toList with
  | nil => exact absurd q h
  | cons x r => exact ⟨rfl, by simp⟩
theorem dirs_ne : ∀ d, d ∈ dirs → d.cps.toList ≠ [] := fun d hd => by
  have q : dirs.all (fun d => !d.cps.toList.isEmpty) = true := by decide +kernel
  have := List.all_eq_true.mp q d hd
  intro z
  rw [z] at this
  cases this
theorem dirs_up : dirs.Pairwise fun a b => fc a < fc b := by decide +kernel
theorem dirs_nd : dirs.Nodup := by decide +kernel
theorem short_part {α β : Type} [DecidableEq β] (g : α → β) (b : β) {L : List α} (hn : (L.map g).Nodup) (p : α → Bool) (h : ∀ y, y ∈ L → p y = true → g y = b) : (L.filter p).length ≤ 1 := by
  have n2 : ((L.filter p).map g).Nodup := hn.sublist (List.filter_sublist.map g)
  cases e : L.filter p with
  | nil => simp
  | cons x r =>
    cases r with
    | nil => simp
    | cons y r =>
      rw [e] at n2
      have hx : x ∈ L.filter p := by rw [e]; simp
      have hy : y ∈ L.filter p := by rw [e]; simp
      have e1 := h x (List.mem_filter.mp hx).1 (List.mem_filter.mp hx).2
      have e2 := h y (List.mem_filter.mp hy).1 (List.mem_filter.mp hy).2
      rw [List.map_cons, List.map_cons, List.nodup_cons] at n2
      exact absurd (by rw [e1, e2]; simp) n2.1
theorem waysL_srt {m : Mo} {s : Sta} (wm : WM m) : srt (waysP m s) = waysL m s := by
  refine srt_eq ?_ ?_
  · have q := part_perm (wayT s) Way.dir (m.ways.filter fun y => decide (y.src = s.here)) dirs dirs_nd
    have e1 : ((m.ways.filter fun y => decide (y.src = s.here)).filter fun y => decide (y.dir ∈ dirs)) = m.ways.filter fun y => decide (y.src = s.here) := by
      rw [List.filter_eq_self]
      intro y hy
      exact decide_eq_true (wm.ydir y (List.mem_filter.mp hy).1)
    rw [e1] at q
    unfold waysL waysP lblsL
    have e2 : (fun d => ((m.ways.filter fun y => decide (y.src = s.here)).filter fun y => decide (y.dir = d)).map (wayT s)) = fun d => (m.ways.filter fun y => decide (y.src = s.here) && decide (y.dir = d)).map (wayT s) := by
      funext d
      rw [List.filter_filter]
      congr 1
      apply List.filter_congr
      intro y _
      exact Bool.and_comm ..
    rw [e2] at q
    exact q
  · unfold waysL
    rw [List.pairwise_flatMap]
    refine ⟨fun d _ => ?_, ?_⟩
    · have h := short_part (fun y : Way => (y.src, y.dir)) (s.here, d) wm.yu (fun y => decide (y.src = s.here) && decide (y.dir = d)) (fun y _ hy => by
        obtain ⟨a, b⟩ := Bool.and_eq_true_iff.mp hy
        rw [of_decide_eq_true a, of_decide_eq_true b])
      unfold lblsL
      cases e : (m.ways.filter fun y => decide (y.src = s.here) && decide (y.dir = d)) with
      | nil => exact List.Pairwise.nil
      | cons x r =>
        cases r with
        | nil => exact List.pairwise_singleton ..
        | cons y r =>
          rw [e] at h
          simp at h
    · refine List.Pairwise.imp_of_mem ?_ dirs_up
      intro d1 d2 hd1 hd2 h x hx y hy
      obtain ⟨w1, hw1, e1⟩ := List.mem_map.mp hx
      obtain ⟨w2, hw2, e2⟩ := List.mem_map.mp hy
      have f1 := of_decide_eq_true (Bool.and_eq_true_iff.mp (List.mem_filter.mp hw1).2).2
      have f2 := of_decide_eq_true (Bool.and_eq_true_iff.mp (List.mem_filter.mp hw2).2).2
      rw [← e1, ← e2]
      unfold wayT
      rw [f1, f2]
      obtain ⟨g1, n1⟩ := fc_app (b := (if (!decide (w1.door = Str.empty) && !opn s w1.door) then (" (shut)" : Str) else Str.empty)) (dirs_ne d1 hd1)
      obtain ⟨g2, n2⟩ := fc_app (b := (if (!decide (w2.door = Str.empty) && !opn s w2.door) then (" (shut)" : Str) else Str.empty)) (dirs_ne d2 hd2)
      exact sle_fc n1 (by rw [g1, g2]; exact h)

/-! ### joined -/
def joinS (xs : List Str) (w : Str) : Nat → Str
  | 0 => Str.empty
  | i + 1 => (if i = 0 then joinS xs w i else joinS xs w i ++ (if i = xs.length - 1 then " " ++ w ++ " " else ", ")) ++ (xs[i]?.getD Str.empty)
theorem join_snoc (sep x : Str) : ∀ (l : List Str), l ≠ [] → Str.join sep (l ++ [x]) = Str.join sep l ++ sep ++ x
  | [], h => absurd rfl h
  | [a], _ => rfl
  | a :: b :: r, _ => by
    have ih := join_snoc sep x (b :: r) (by simp)
    show a ++ sep ++ Str.join sep ((b :: r) ++ [x]) = a ++ sep ++ Str.join sep (b :: r) ++ sep ++ x
    rw [ih]
    simp only [Str.append_assoc]
theorem joinS_mid (xs : List Str) (w : Str) : ∀ i, i ≤ xs.length - 1 → joinS xs w i = Str.join ", " (xs.take i)
  | 0, _ => rfl
  | i + 1, h => by
    have ih := joinS_mid xs w i (by omega)
    have hi : i < xs.length := by omega
    have e : xs.take (i + 1) = xs.take i ++ [xs[i]] := by rw [List.take_add_one, List.getElem?_eq_getElem hi]; rfl
    have e2 : xs[i]?.getD Str.empty = xs[i] := by rw [List.getElem?_eq_getElem hi]; rfl
    show (if i = 0 then joinS xs w i else joinS xs w i ++ (if i = xs.length - 1 then " " ++ w ++ " " else ", ")) ++ (xs[i]?.getD Str.empty) = _
    rw [e2, ih, e]
    by_cases h0 : i = 0
    · subst h0
      rw [if_pos rfl]
      exact Str.empty_append _
    · rw [if_neg h0, if_neg (by omega), join_snoc _ _ _ (by
        intro z
        have := congrArg List.length z
        rw [List.length_take, Nat.min_eq_left (by omega)] at this
        exact h0 this)]
theorem joinS_P (xs : List Str) (w : Str) : joinS xs w xs.length = joinP xs w := by
  unfold joinP
  cases xs with
  | nil => rfl
  | cons a r =>
    cases r with
    | nil =>
      rw [if_pos (show [a].length < 2 from by show 1 < 2; decide), join_str]
      show Str.empty ++ a = a
      exact Str.empty_append _
    | cons b r =>
      rw [if_neg (by simp)]
      have h1 := joinS_mid (a :: b :: r) w ((a :: b :: r).length - 1) (Nat.le_refl _)
      have hl : (a :: b :: r).length = ((a :: b :: r).length - 1) + 1 := by simp
      rw [hl]
      show (if (a :: b :: r).length - 1 = 0 then _ else joinS (a :: b :: r) w ((a :: b :: r).length - 1) ++ (if (a :: b :: r).length - 1 = (a :: b :: r).length - 1 then " " ++ w ++ " " else ", ")) ++ ((a :: b :: r)[(a :: b :: r).length - 1]?.getD Str.empty) = _
      rw [if_neg (by simp), if_pos rfl, h1, ← List.dropLast_eq_take, join_str, List.getLast?_eq_getElem?]
      simp only [Str.append_assoc]

/-! ### the rows of holders -/
def rowL (m : Mo) (s : Sta) (h : Str) (seen : List Str) (w : Wh) (word : Str) : List Str :=
  if (seen.filter fun x => decide (whF s x = w)) = [] then [] else [word ++ "the " ++ wordsF m h ++ ": " ++ joinP ((seen.filter fun x => decide (whF s x = w)).map (aF m)) "and" ++ "."]
section
variable {m : Mo} {s : Sta}
theorem not_both (wf : WF m s) {h x y : Str} (hx : x ∈ m.names) (hy : y ∈ m.names) (e1 : whF s x = .in_ h) (e2 : whF s y = .on_ h) : False := by
  have q1 := wf.wv x _ (wf.whF hx)
  have q2 := wf.wv y _ (wf.whF hy)
  rw [e1] at q1
  rw [e2] at q2
  obtain ⟨t1, h1, b1⟩ := q1
  obtain ⟨t2, h2, b2⟩ := q2
  rw [h1] at h2
  cases h2
  exact (wf.wm.tok t1 (thg_mem h1)).bx ⟨b1, b2⟩
theorem rows_eq (wf : WF m s) (h : Str) {seen : List Str} (hs : ∀ x, x ∈ seen → x ∈ m.names) : rowL m s h seen (.in_ h) "In " ++ rowL m s h seen (.on_ h) "On " = heldLineP m s h seen := by
  have hm : ∀ x, decide (whF s x ∈ [Wh.in_ h, Wh.on_ h]) = (decide (whF s x = .in_ h) || decide (whF s x = .on_ h)) := fun x => by
    simp [List.mem_cons, Bool.decide_or]
  have word : ∀ (w c : Str), w ++ "the " ++ c = w ++ (("the " : Str) ++ c) := fun w c => Str.append_assoc ..
  by_cases hi : ∃ x, x ∈ seen ∧ whF s x = .in_ h
  · obtain ⟨x, hx, ex⟩ := hi
    have noOn : (seen.filter fun x => decide (whF s x = .on_ h)) = [] := by
      rw [List.filter_eq_nil_iff]
      intro y hy z
      exact not_both wf (hs x hx) (hs y hy) ex (of_decide_eq_true z)
    have e : heldP s h seen = seen.filter fun x => decide (whF s x = .in_ h) := by
      unfold heldP
      apply List.filter_congr
      intro y hy
      rw [hm]
      have : decide (whF s y = .on_ h) = false := decide_eq_false fun z => not_both wf (hs x hx) (hs y hy) ex z
      rw [this, Bool.or_false]
    have er : rowL m s h seen (.on_ h) "On " = [] := by unfold rowL; rw [if_pos noOn]
    rw [er, List.append_nil]
    unfold rowL heldLineP
    rw [e]
    cases q : (seen.filter fun x => decide (whF s x = .in_ h)) with
    | nil => rfl
    | cons y r =>
      have hy : y ∈ seen.filter fun x => decide (whF s x = .in_ h) := by rw [q]; simp
      have ey := of_decide_eq_true (List.mem_filter.mp hy).2
      simp only [ey, isIn]
      rw [if_neg (by simp), word]
      rfl
  · have noIn : (seen.filter fun x => decide (whF s x = .in_ h)) = [] := by
      rw [List.filter_eq_nil_iff]
      intro y hy z
      exact hi ⟨y, hy, of_decide_eq_true z⟩
    have e : heldP s h seen = seen.filter fun x => decide (whF s x = .on_ h) := by
      unfold heldP
      apply List.filter_congr
      intro y hy
      rw [hm]
      have : decide (whF s y = .in_ h) = false := decide_eq_false fun z => hi ⟨y, hy, z⟩
      rw [this, Bool.false_or]
    have er : rowL m s h seen (.in_ h) "In " = [] := by unfold rowL; rw [if_pos noIn]
    rw [er, List.nil_append]
    unfold rowL heldLineP
    rw [e]
    cases q : (seen.filter fun x => decide (whF s x = .on_ h)) with
    | nil => rfl
    | cons y r =>
      have hy : y ∈ seen.filter fun x => decide (whF s x = .on_ h) := by rw [q]; simp
      have ey := of_decide_eq_true (List.mem_filter.mp hy).2
      simp only [ey, isIn]
      rw [if_neg (by simp), word]
      rfl
/-- how many are held by h -/
def cntH (s : Sta) (h : Str) (seen : List Str) : Nat := (seen.filter fun x => decide (whF s x = .in_ h)).length + (seen.filter fun x => decide (whF s x = .on_ h)).length
def namedF (m : Mo) (s : Sta) : Nat := if litF m s s.here then (lyingP m s).length + ((seenF m s).map fun h => cntH s h (seenF m s)).sum else 0

theorem rootF_step (wf : WF m s) {x h : Str} {b : Bool} (hx : x ∈ m.names) (e : whF s x = linkW (b, h)) : h ∈ m.names ∧ rootF s x = rootF s h ∧ (hidF m s x = false → hidF m s h = false) := by
  obtain ⟨hh, ec⟩ := chn_step wf hx e
  refine ⟨hh, by unfold rootF; rw [ec], ?_⟩
  unfold hidF shutF
  rw [ec]
  intro q
  cases b
  · simpa using q
  · cases ho : opn s h
    · simp [ho] at q ⊢
      exact q.2
    · simpa [ho] using q
theorem sum_one (f : Str → Bool) : ∀ {l : List Str}, l.Nodup → ∀ {h : Str}, h ∈ l → f h = true → (∀ h', f h' = true → h' = h) → (l.map fun h => if f h then 1 else 0).sum = 1
  | [], _, h, m, _, _ => by cases m
  | a :: l, hn, h, m, e, u => by
    obtain ⟨h1, h2⟩ := List.nodup_cons.mp hn
    rw [List.map_cons, List.sum_cons]
    rcases List.mem_cons.mp m with q | m
    · subst q
      have z : (l.map fun h => if f h then 1 else 0).sum = 0 := by
        have : ∀ l' : List Str, h ∉ l' → (l'.map fun h => if f h then 1 else 0).sum = 0 := fun l' => by
          induction l' with
          | nil => intro _; rfl
          | cons c r ih =>
            intro hc
            rw [List.map_cons, List.sum_cons, ih fun z => hc (by simp [z])]
            have : ¬ f c = true := fun z => hc (by rw [u c z]; simp)
            rw [if_neg this]
        exact this l h1
      rw [if_pos e, z]
    · have na : ¬ f a = true := fun z => h1 (by rw [u a z]; exact m)
      rw [if_neg na, sum_one f h2 m e u]
theorem sum_zero (f : Str → Bool) : ∀ (l : List Str), (∀ h, h ∈ l → f h = false) → (l.map fun h => if f h then 1 else 0).sum = 0
  | [], _ => rfl
  | a :: l, h => by
    rw [List.map_cons, List.sum_cons, sum_zero f l fun x hx => h x (by simp [hx]), h a (by simp)]
    rfl
theorem sum_split (f g : Str → Nat) : ∀ (l : List Str), (l.map fun h => f h + g h).sum = (l.map f).sum + (l.map g).sum
  | [] => rfl
  | a :: l => by
    rw [List.map_cons, List.sum_cons, List.map_cons, List.sum_cons, List.map_cons, List.sum_cons, sum_split f g l]
    omega
def cnt1 (c : Bool) : Nat := if c then 1 else 0
theorem filter_cons_len {α : Type} (c : α → Bool) (x : α) (r : List α) : ((x :: r).filter c).length = cnt1 (c x) + (r.filter c).length := by
  rw [List.filter_cons]
  unfold cnt1
  cases c x <;> simp <;> omega
/-- each seen thing that isn't with you lies here, is a door here, or is held by a seen one: by just one of these -/
theorem named_eq (wf : WF m s) (hl : litF m s s.here = true) : namedF m s = ((seenF m s).filter fun x => !decide (whF s x = .with_)).length := by
  unfold namedF
  rw [if_pos hl]
  have nd : (seenF m s).Nodup := wf.wm.tn.sublist List.filter_sublist
  -- what is seen
  have sx : ∀ x, x ∈ m.names → (x ∈ seenF m s ↔ (x ∈ doorsF m s.here ∨ ((rootF s x = .with_ ∨ rootF s x = .at_ s.here) ∧ hidF m s x = false))) := fun x hx => by
    unfold seenF
    rw [List.mem_filter]
    unfold seenX rootsS
    rw [hl]
    simp [hx]
  have hdoor : ∀ x, x ∈ doorsF m s.here → whF s x = .nowhere := fun x hx => by
    have h1 := (List.mem_filter.mp hx)
    have h2 := of_decide_eq_true h1.2
    obtain ⟨y, hy, e⟩ := List.mem_map.mp h2
    obtain ⟨t0, ht0, e0⟩ := List.mem_map.mp h1.1
    rcases wf.wm.ydoor y (List.mem_filter.mp hy).1 with q | ⟨t, ht, q, hd⟩
    · have := (wf.wm.tok t0 ht0).name.1
      rw [e0, ← e, q] at this
      exact absurd this (by decide +kernel)
    · have q2 := wf.dw t.name t (thg_of_mem wf.wm.tn ht) hd
      rw [q, e] at q2
      unfold whF
      rw [q2]
      rfl
  have stopR : ∀ x, x ∈ m.names → isHeld (whF s x) = false → rootF s x = whF s x := fun x hx h => by
    have := due_stop wf hx h
    unfold due at this
    exact (Prod.mk.inj this).1
  -- doors: counted among the seen
  have dlen : (doorsF m s.here).length = ((seenF m s).filter fun x => decide (x ∈ doorsF m s.here)).length := by
    have e : ((seenF m s).filter fun x => decide (x ∈ doorsF m s.here)) = doorsF m s.here := by
      unfold seenF
      rw [List.filter_filter]
      have e2 : doorsF m s.here = m.names.filter fun x => decide (x ∈ doorsF m s.here) := by
        conv => lhs; unfold doorsF
        apply List.filter_congr
        intro x hx
        refine decide_eq_decide.mpr ⟨fun z => List.mem_filter.mpr ⟨hx, decide_eq_true z⟩, fun z => of_decide_eq_true (List.mem_filter.mp z).2⟩
      conv => rhs; rw [e2]
      apply List.filter_congr
      intro x hx
      by_cases h : x ∈ doorsF m s.here
      · unfold seenX
        rw [hl]
        simp [h]
      · simp [h]
    rw [e]
  have main : ∀ xs : List Str, (∀ x, x ∈ xs → x ∈ seenF m s) →
      (xs.filter fun x => decide (whF s x = .at_ s.here)).length + (xs.filter fun x => decide (x ∈ doorsF m s.here)).length + ((seenF m s).map fun h => cntH s h xs).sum = (xs.filter fun x => !decide (whF s x = .with_)).length := by
    intro xs
    induction xs with
    | nil =>
      intro _
      have : ((seenF m s).map fun h => cntH s h []).sum = 0 := by
        generalize seenF m s = l
        induction l with
        | nil => rfl
        | cons a l ih => rw [List.map_cons, List.sum_cons, ih]; rfl
      rw [this]
      rfl
    | cons x r ih =>
      intro hx
      have ihr := ih fun y hy => hx y (by simp [hy])
      have hxs := hx x (by simp)
      have hxn := seen_sub hxs
      rw [filter_cons_len, filter_cons_len, filter_cons_len]
      have es : (fun h => cntH s h (x :: r)) = fun h => (if (decide (whF s x = .in_ h) || decide (whF s x = .on_ h)) then 1 else 0) + cntH s h r := by
        funext h
        unfold cntH
        rw [filter_cons_len, filter_cons_len]
        unfold cnt1
        by_cases h1 : whF s x = .in_ h
        · have h2 : ¬ whF s x = .on_ h := fun z => by rw [h1] at z; cases z
          simp [h1]
          omega
        · by_cases h2 : whF s x = .on_ h
          · simp [h2]
            omega
          · simp [h1, h2]
      rw [es, sum_split (fun h => if (decide (whF s x = .in_ h) || decide (whF s x = .on_ h)) then 1 else 0)]
      have key : cnt1 (decide (whF s x = .at_ s.here)) + cnt1 (decide (x ∈ doorsF m s.here)) + ((seenF m s).map fun h => if (decide (whF s x = .in_ h) || decide (whF s x = .on_ h)) then 1 else 0).sum = cnt1 (!decide (whF s x = .with_)) := by
        by_cases hd : x ∈ doorsF m s.here
        · have hw := hdoor x hd
          rw [hw, sum_zero _ _ (fun h _ => by simp)]
          simp [cnt1, hd]
        · have hr : (rootF s x = .with_ ∨ rootF s x = .at_ s.here) ∧ hidF m s x = false := ((sx x hxn).mp hxs).resolve_left hd
          have held : ∀ b h, whF s x = linkW (b, h) → h ∈ seenF m s := fun b h e => by
            obtain ⟨hh, e1, e2⟩ := rootF_step wf hxn e
            exact (sx h hh).mpr (.inr ⟨by rw [← e1]; exact hr.1, e2 hr.2⟩)
          cases q : whF s x with
          | at_ p =>
            have e := stopR x hxn (by rw [q]; rfl)
            rw [q] at e
            have hp : p = s.here := by
              rcases hr.1 with z | z
              · rw [e] at z; cases z
              · rw [e] at z; cases z; rfl
            rw [sum_zero _ _ (fun h _ => by simp)]
            simp [cnt1, hd, hp]
          | with_ =>
            rw [sum_zero _ _ (fun h _ => by simp)]
            simp [cnt1, hd]
          | nowhere =>
            have e := stopR x hxn (by rw [q]; rfl)
            rw [q] at e
            rcases hr.1 with z | z
            · rw [e] at z; cases z
            · rw [e] at z; cases z
          | in_ h =>
            rw [sum_one _ nd (held true h q) (by simp) (fun h' z => by
              have z2 : Wh.in_ h = .in_ h' := by simpa using z
              cases z2
              rfl)]
            simp [cnt1, hd]
          | on_ h =>
            rw [sum_one _ nd (held false h q) (by simp) (fun h' z => by
              have z2 : Wh.on_ h = .on_ h' := by simpa using z
              cases z2
              rfl)]
            simp [cnt1, hd]
      omega
  have q := main (seenF m s) fun x hx => hx
  unfold lyingP
  rw [List.length_append, dlen]
  exact q
end
end Wt

/-! WtR: the promises of the law's readers; what they lean on. -/
namespace Wt
open PySem PySem.Spec PyProof.Rows L2

def hT (t : Thing) : List Wh := (if ("box" : Str) ∈ t.traits then [Wh.in_ t.name] else []) ++ (if ("stand" : Str) ∈ t.traits then [Wh.on_ t.name] else [])
def toldS (s : Sta) : D := .tup [.str s.here, .int s.turn, .tup (s.whs.map fun p => p.2.d), .tup (((s.ops.map (·.1)).filter (opn s)).map .str), .tup (((s.worn.map (·.1)).filter (wornF s)).map .str), .tup (s.nums.map fun p => .int p.2)]
mutual
/-- data without dicts, of a depth below n, not wide -/
def D.dp : Nat → D → Bool
  | 0, _ => false
  | n + 1, .lst xs => decide (xs.length < 10000) && D.dpL n xs
  | n + 1, .tup xs => decide (xs.length < 10000) && D.dpL n xs
  | _ + 1, .str _ => true
  | _ + 1, .int _ => true
  | _ + 1, .bl _ => true
  | _ + 1, _ => false
def D.dpL : Nat → List D → Bool
  | _, [] => true
  | n, d :: ds => D.dp n d && D.dpL n ds
end
def F_lholders : List D → List D → Prop := fun ds es => ∃ m : Mo, m.things.length ≤ 12 ∧ ds = [m.d] ∧ es = (holdersF m).map Wh.d
def F_free : List D → List D → Prop := fun ds es => ∃ (m : Mo) (p : Str), m.ways.length ≤ 100 ∧ ds = [m.d, .str p] ∧ es = (freeF m p).map .str
def F_lholds : List D → D → Prop := fun ds d => ∃ (s : Sta) (h x : Str) (w : Wh) (c : List (Bool × Str)) (r : Wh), look s.whs x = some w ∧ Chain s.whs w c r ∧ c.length ≤ 12 ∧ ds = [s.d, .str h, .str x] ∧ d = .bl (decide (h ∈ x :: c.map (·.2)))
def F_marked : List D → List (Str × D) → Prop := fun ds es => ∃ m s, WF m s ∧ ds = [m.d, s.d] ∧ es = mksD (mkAll m s 13)
def F_ldoors : List D → List D → Prop := fun ds es => ∃ m p, WM m ∧ ds = [m.d, .str p] ∧ es = (doorsF m p).map .str
def F_llit : List D → D → Prop := fun ds d => ∃ m s mk p, WF m s ∧ MarkOk m s mk ∧ p ∈ m.pnames ∧ ds = [m.d, s.d, .dic (mksD mk), .str p] ∧ d = .bl (litF m s p)
def F_lseen : List D → List D → Prop := fun ds es => ∃ m s mk, WF m s ∧ MarkOk m s mk ∧ ds = [m.d, s.d, .dic (mksD mk)] ∧ es = (seenF m s).map .str
def F_lwords : List D → D → Prop := fun ds d => ∃ m x, WM m ∧ x ∈ m.names ∧ ds = [m.d, .str x] ∧ d = .str (wordsF m x)
def F_la : List D → D → Prop := fun ds d => ∃ m x, WM m ∧ x ∈ m.names ∧ ds = [m.d, .str x] ∧ d = .str (aF m x)
def F_ljoin : List D → D → Prop := fun ds d => ∃ xs w, Short xs ∧ w.length ≤ 100 ∧ ds = [.lst (xs.map .str), .str w] ∧ d = .str (joinP xs w)
def F_lways : List D → List D → Prop := fun ds es => ∃ m s, WF m s ∧ ds = [m.d, s.d] ∧ es = (waysL m s).map .str
def F_llook : List D → D → Prop := fun ds d => ∃ m s mk, WF m s ∧ MarkOk m s mk ∧ ds = [m.d, s.d, .dic (mksD mk)] ∧ d = .tup [.lst ((lookP m s).map .str), .int (namedF m s : Int)]
def F_llisted : List D → List D → Prop := fun ds es => ∃ m s, WF m s ∧ ds = [m.d, s.d] ∧ es = (holdP m s).map .str
def F_same (n : Nat) : List D → D → Prop := fun ds d => ∃ x, D.dp n x = true ∧ ds = [x, x] ∧ d = .bl true
def F_ltold : List D → D → Prop := fun ds d => ∃ m s, WF m s ∧ ds = [s.d] ∧ d = toldS s
def F_told (S W : Addr) : List D → D → Prop := fun ds d => ∃ m s, WF m s ∧ ds = [stD S W m s] ∧ d = toldS s

/-! rules on the own dict -/
section
variable {ρ : Env} {w : Own} {te tk : TE} {kvs : List (Str × D)} {k : Str} {d : D} {j : Nat} {b : Bool}
theorem etw_test (h : EvW w te ρ (.bl b)) : EvTW w (tTest te) ρ b := by
  cases w with
  | none => exact et_test h
  | some jc =>
    obtain ⟨j, c⟩ := jc
    intro O p σ H hd e o hr Q q
    refine h O p σ H hd e o hr _ fun v H1 s1 m1 => ?_
    cases m1
    exact ⟨b, rfl, q H1 s1⟩
theorem etw_B (h : EvW w te ρ (.bl b)) : EvTW w (tB te) ρ b := by
  cases w with
  | none => exact et_B h
  | some jc =>
    obtain ⟨j, c⟩ := jc
    intro O p σ H hd e o hr Q q
    refine h O p σ H hd e o hr _ fun v H1 s1 m1 => ?_
    cases m1
    exact ⟨b, rfl, q H1 s1⟩
theorem ew_din (hk : EvD tk ρ (.str k)) : EvW (some (j, .M kvs)) (tDIn tk (tVar j)) ρ (.bl (valD kvs k).isSome) := by
  intro O p σ H hd e ⟨xs, eo, m⟩ hr Q q
  refine hk _ σ H hd hr _ fun v H1 s1 m1 => ?_
  cases m1
  refine ⟨_, e, p, valV xs (.inr k), rfl, .inl ⟨xs, .inr k, .inl (s1 _ _ eo), rfl, rfl⟩, q _ H1 s1 ?_⟩
  rw [m.isSome k]
  exact .bl _
theorem ew_dget (hk : EvD tk ρ (.str k)) (hv : valD kvs k = some d) : EvW (some (j, .M kvs)) (tDGet (tVar j) tk) ρ d := by
  intro O p σ H hd e ⟨xs, eo, m⟩ hr Q q
  refine ⟨_, e, hk _ σ H hd hr _ fun v H1 s1 m1 => ?_⟩
  cases m1
  obtain ⟨w, h1, h2⟩ := (m.same s1).val hv
  exact ⟨p, w, rfl, .inl ⟨xs, .inr k, .inl (s1 _ _ eo), rfl, h1.symm⟩, q w H1 s1 h2⟩
end
theorem s_lk {te : TE} {i : Nat} {D' : Ends} {σ : L2.St} {H : Hp} (h : tAsg (tLockO te) (gName i) D' σ H) : tLockSO (tAsg te (gName i)) D' σ H := h
theorem WF.opl {m : Mo} {s : Sta} {h : Str} {t : Thing} (wf : WF m s) (ht : thg m h = some t) (hl : lidded t = true) : look s.ops h = some (opn s h) := by
  have q : h ∈ s.ops.map (·.1) := by
    rw [wf.ok]
    exact List.mem_map.mpr ⟨t, List.mem_filter.mpr ⟨thg_mem ht, hl⟩, thg_name ht⟩
  obtain ⟨b, e⟩ := look_some q
  unfold opn
  rw [e]
  rfl
theorem WF.opbox {m : Mo} {s : Sta} {x h : Str} (wf : WF m s) (hx : x ∈ m.names) (e : Wt.whF s x = .in_ h) : look s.ops h = some (opn s h) := by
  have q := wf.wv x _ (wf.whF hx)
  rw [e] at q
  obtain ⟨t, ht, hb⟩ := q
  exact wf.opl ht (by unfold lidded; rw [decide_eq_true hb]; rfl)
theorem look_val {α : Type} (f : α → D) : ∀ {l : List (Str × α)}, (l.map (·.1)).Nodup → ∀ (d : α), (l.map (·.1)).map (fun k => f ((look l k).getD d)) = l.map fun p => f p.2
  | [], _, _ => rfl
  | p :: l, hn, d => by
    rw [List.map_cons, List.nodup_cons] at hn
    rw [List.map_cons, List.map_cons, List.map_cons, look_cons, if_pos rfl]
    congr 1
    rw [← look_val f hn.2 d, List.map_map, List.map_map]
    apply List.map_congr_left
    intro q hq
    show f ((look (p :: l) q.1).getD d) = f ((look l q.1).getD d)
    rw [look_cons, if_neg]
    intro z
    exact hn.1 (by rw [z]; exact List.mem_map.mpr ⟨q, hq, rfl⟩)
/-! marks -/
theorem val_mk {l : List (Str × Mk3)} {x : Str} {k : Mk3} (h : look l x = some k) : valD (mksD l) x = some (mkD k) := by
  unfold mksD
  rw [valD_map mkD, h]
  rfl
theorem val_mk_some (l : List (Str × Mk3)) (x : Str) : (valD (mksD l) x).isSome = (look l x).isSome := by
  unfold mksD
  rw [valD_map mkD]
  cases look l x <;> rfl
section
variable {m : Mo} {s : Sta}
theorem mkStep_stop {l : List (Str × Mk3)} {t : Thing} (h : isHeld (whF s t.name) = false) : mkStep m s l t = putM l t.name (whF s t.name, false, false) := by
  unfold mkStep
  cases q : whF s t.name with
  | in_ y => rw [q] at h; cases h
  | on_ y => rw [q] at h; cases h
  | at_ p => rfl
  | with_ => rfl
  | nowhere => rfl
theorem mkStep_held {l : List (Str × Mk3)} {t : Thing} {b : Bool} {y : Str} {k : Mk3} (h : whF s t.name = linkW (b, y)) (e : look l y = some k) :
    mkStep m s l t = putM l t.name (k.1, (k.2.1 || ((b && !opn s y) && !hasT m y "clear")), (k.2.2 || (b && !opn s y))) := by
  unfold mkStep
  rw [h]
  cases b
  · show (match look l y with | some k => putM l t.name (k.1, k.2.1, k.2.2) | none => l) = _
    rw [e]
    simp
  · show (match look l y with | some k => putM l t.name (k.1, (k.2.1 || (!opn s y && !hasT m y "clear")), (k.2.2 || !opn s y)) | none => l) = _
    rw [e]
    simp
theorem mkStep_none {l : List (Str × Mk3)} {t : Thing} {b : Bool} {y : Str} (h : whF s t.name = linkW (b, y)) (e : look l y = none) : mkStep m s l t = l := by
  unfold mkStep
  rw [h]
  cases b
  · show (match look l y with | some k => putM l t.name (k.1, k.2.1, k.2.2) | none => l) = _
    rw [e]
  · show (match look l y with | some k => putM l t.name (k.1, (k.2.1 || (!opn s y && !hasT m y "clear")), (k.2.2 || !opn s y)) | none => l) = _
    rw [e]
theorem held_link {w : Wh} (h : isHeld w = true) : ∃ b y, w = linkW (b, y) := by
  cases w with
  | at_ p => cases h
  | with_ => cases h
  | nowhere => cases h
  | in_ y => exact ⟨true, y, rfl⟩
  | on_ y => exact ⟨false, y, rfl⟩
def clearL (m : Mo) : List Str := (m.things.filter fun t => decide (("clear" : Str) ∈ t.traits)).map (·.name)
theorem clear_mem (wm : WM m) {x : Str} (hx : x ∈ m.names) : decide (x ∈ clearL m) = hasT m x "clear" := by
  obtain ⟨t, ht, e⟩ := thgF hx "clear"
  rw [e]
  refine decide_eq_decide.mpr ⟨fun z => ?_, fun z => List.mem_map.mpr ⟨t, List.mem_filter.mpr ⟨thg_mem ht, decide_eq_true z⟩, thg_name ht⟩⟩
  obtain ⟨u, hu, eu⟩ := List.mem_map.mp z
  obtain ⟨h1, h2⟩ := List.mem_filter.mp hu
  have q := thg_of_mem wm.tn h1
  rw [eu, ht] at q
  cases q
  exact of_decide_eq_true h2
theorem hasT_t {t : Thing} (wm : WM m) (h : t ∈ m.things) (tr : Str) : hasT m t.name tr = decide (tr ∈ t.traits) := by
  unfold hasT
  rw [thg_of_mem wm.tn h]
theorem mkS_len (l : List (Str × Mk3)) (t : Thing) : (mkStep m s l t).length ≤ l.length + 1 := by
  unfold mkStep
  split
  · split
    · exact putM_len ..
    · omega
  · split
    · exact putM_len ..
    · omega
  · exact putM_len ..
theorem mkF_len : ∀ (ts : List Thing) (l : List (Str × Mk3)), (ts.foldl (mkStep m s) l).length ≤ l.length + ts.length
  | [], l => Nat.le_refl _
  | t :: ts, l => by
    have h1 := mkF_len ts (mkStep m s l t)
    have h2 := mkS_len (m := m) (s := s) l t
    rw [List.length_cons]
    show (ts.foldl (mkStep m s) (mkStep m s l t)).length ≤ _
    omega
theorem mkA_len (wm : WM m) : ∀ n, (mkAll m s n).length ≤ 12 * n
  | 0 => Nat.le_refl _
  | n + 1 => by
    have h1 := mkA_len wm n
    have h2 := mkF_len (m := m) (s := s) m.things (mkAll m s n)
    have h3 := wm.tl
    show (m.things.foldl (mkStep m s) (mkAll m s n)).length ≤ _
    omega
/-! places -/
theorem eqv_place (a b : Str × Bool) : PyData.eqv (placeD a).py (placeD b).py = decide (a = b) := by
  obtain ⟨x, c⟩ := a
  obtain ⟨y, d⟩ := b
  cases c <;> cases d <;> simp [placeD, D.py, D.pyL, PyData.eqv, PyData.eqvAll, Bool.beq_eq_decide_eq]
theorem pyL_place : ∀ l : List (Str × Bool), D.pyL (l.map placeD) = l.map fun p => (placeD p).py
  | [] => by simp [D.pyL]
  | w :: ws => by simp [D.pyL, pyL_place ws]
theorem plL_place : ∀ l : List (Str × Bool), D.plL (l.map placeD) = true
  | [] => by simp [D.plL]
  | w :: ws => by
    have : (placeD w).pl = true := rfl
    simp [D.plL, plL_place ws, this]
theorem depth_place (p : Str × Bool) : PyData.depth (placeD p).py = 1 := by simp [placeD, D.py, D.pyL, PyData.depth, PyData.depthAll]
theorem canLay_place {p : Str × Bool} (h : PyData.strOk p.1 = true) : PyData.canLay0 (placeD p).py = true := by
  simp [placeD, D.py, D.pyL, PyData.canLay0, PyData.canLayAll0, h]
theorem canLayL_place : ∀ {l : List (Str × Bool)}, (∀ w, w ∈ l → PyData.strOk w.1 = true) → PyData.canLayAll0 (l.map fun p => (placeD p).py) = true
  | [], _ => by simp [PyData.canLayAll0]
  | w :: ws, h => by
    simp only [List.map_cons, PyData.canLayAll0, Bool.and_eq_true]
    exact ⟨canLay_place (h w (by simp)), canLayL_place fun x hx => h x (by simp [hx])⟩
theorem depthL_place : ∀ l : List (Str × Bool), PyData.depthAll (l.map fun p => (placeD p).py) ≤ 1
  | [] => by simp [PyData.depthAll]
  | w :: ws => by
    have := depthL_place ws
    simp only [List.map_cons, PyData.depthAll, depth_place]
    omega
theorem rd_inP {K : PySem.W.Frag} {l : List (Str × Bool)} {p : Str × Bool} (hp : PyData.strOk p.1 = true) (h : ∀ w, w ∈ l → PyData.strOk w.1 = true) : RD (rInD K) (placeD p) (.lst (l.map placeD)) (.bl (decide (p ∈ l))) := by
  refine rd_inD rfl (plL_place l) ?_ ?_ ?_
  · unfold SeqAt.shaped
    rw [canLay_place hp, depth_place]
    decide
  · unfold SeqAt.shaped
    rw [pyL_place]
    have h1 : PyData.canLay0 (.list (l.map fun w => (placeD w).py)) = true := by
      simp only [PyData.canLay0]
      exact canLayL_place h
    have h2 := depthL_place l
    rw [h1, Bool.true_and, decide_eq_true_eq]
    simp only [PyData.depth]
    omega
  · induction l with
    | nil => simp [D.pyL]
    | cons x ws ih =>
      have ih := ih fun w hw => h w (by simp [hw])
      simp only [List.map_cons, D.pyL, List.any_cons, ih, eqv_place]
      by_cases q : x = p
      · subst q; simp
      · have h' : ¬ p = x := fun z => q z.symm
        simp [q, h']
theorem dark_mem (wm : WM m) {p : Str} (hp : p ∈ m.pnames) : decide ((p, false) ∈ m.places) = !darkF m p := by
  obtain ⟨b, e⟩ := look_some hp
  unfold darkF
  rw [e]
  have h1 := look_mem e
  cases b
  · exact decide_eq_true h1
  · refine decide_eq_false fun z => ?_
    have q := look_of_mem wm.pn z
    rw [e] at q
    cases q
theorem doors_comp (p : Str) : ((m.things.filter fun t => decide (t.name ∈ (m.ways.filter fun y => decide (p ∈ [y.src, y.dst])).map (·.door))).map fun t => D.str t.name) = (doorsF m p).map .str := by
  unfold doorsF
  rw [List.filter_map, List.map_map]
  rfl
end
end Wt

/-! WtR2: a comprehension over a zip. -/
namespace Wt
open PySem PySem.Spec PyProof.Rows L2
theorem dpL_mem {n : Nat} : ∀ {xs : List D}, D.dpL n xs = true → ∀ d, d ∈ xs → D.dp n d = true
  | [], _, d, hd => by cases hd
  | x :: xs, h, d, hd => by
    unfold D.dpL at h
    obtain ⟨h1, h2⟩ := Bool.and_eq_true_iff.mp h
    rcases List.mem_cons.mp hd with e | hd
    · rw [e]
      exact h1
    · exact dpL_mem h2 d hd
theorem dpL_of {n : Nat} : ∀ {xs : List D}, (∀ d, d ∈ xs → D.dp n d = true) → D.dpL n xs = true
  | [], _ => by unfold D.dpL; rfl
  | x :: xs, h => by
    unfold D.dpL
    rw [h x (by simp), dpL_of fun d hd => h d (by simp [hd])]
    rfl
section
variable {K : PySem.W.Frag} {ρ : Env} {te : TE} {ta : TA} {j1 j2 : Nat} {ds : List D}
theorem zip_mv {O : Mask} {H : Hp} {T Dl : Addr} {x y : V} {d : D} {zs : List V} (hd : Dom O H) (nT : H T = none) (e : H Dl = some (.lst zs)) (m1 : Dm (O.and Dl) H x d) (m2 : Dm (O.and Dl) H y d) : Dm (O.and Dl) (upd H T (.tup [x, y])) (.ref T) (.tup [d, d]) :=
  .tup (fun z => z.elim (hd.not nT) fun q => by rw [q, e] at nT; cases nT) upd_same (.cons (m1.new nT) (.cons (m2.new nT) .nil))
theorem en_lcZL (ed : D → D) (h : EvA ta ρ [.lst ds, .lst ds]) (hz : ds.length < 100000) (he : ∀ d, d ∈ ds → EvD te (((wipeE ρ [j1, j2]).set j1 (some d)).set j2 (some d)) (ed d)) :
    EvN (tLc (RZ.iZipA K ta) (gTup K 2 (gCons (gName j1) (gCons (gName j2) gNil))) tYes te [j1, j2]) ρ (ds.map ed) := by
  intro O σ H hd hr Q q
  refine h O σ H hd hr _ fun vs H1 s1 m1 => ?_
  cases m1 with
  | cons m1 m2 =>
    cases m2 with
    | cons m2 m3 =>
      cases m3
      cases m1 with
      | lst n e r =>
        rename_i a xs
        cases m2 with
        | lst n2 e2 r2 =>
          rename_i b ys
          have hl : xs.length = ds.length := r.length
          have hl2 : ys.length = ds.length := r2.length
          refine ⟨a, b, xs, ys, rfl, .inl ⟨SqL.of e, SqL.of e2, fun Dl nD => ?_⟩⟩
          refine ⟨fun i m H => m = xs.length - i ∧ i ≤ xs.length ∧ ∃ zs, Same H1 H ∧ H Dl = some (.lst zs) ∧ DmL (O.and Dl) H zs ((ds.take i).map ed), ⟨_, rfl, Nat.zero_le _, [], Same.new nD, upd_same, .nil⟩, ?_⟩
          rintro i m H ⟨rfl, hi, zs, sa, e1, mm⟩
          by_cases hlt : i < xs.length
          · refine .inr ⟨⟨xs, ys, xs[i], ys[i], SqL.of (sa _ _ e), SqL.of (sa _ _ e2), by simp, by simp⟩, fun H => i + 1 ≤ xs.length ∧ ∃ zs, Same H1 H ∧ H Dl = some (.lst zs) ∧ DmL (O.and Dl) H zs ((ds.take (i + 1)).map ed), fun H' z => ⟨xs.length - (i + 1), by omega, rfl, z.1, z.2⟩, fun v H' y => ?_⟩
            obtain ⟨T, x, y, rfl, nT, rfl, f1, f2⟩ := y
            obtain ⟨d, hd1, md⟩ := r.getV (f1 xs (SqL.of (sa _ _ e)))
            obtain ⟨d', hd2, md'⟩ := r2.getV (f2 ys (SqL.of (sa _ _ e2)))
            rw [hd1] at hd2
            cases hd2
            have hdo := (hd.same s1)
            refine lc_turn (b := true) (d := .tup [d, d]) (f := fun ρ => (ρ.set j1 (some d)).set j2 (some d)) hdo (Rz.same hr s1) nD (sa.trans (Same.new nT)) (Same.new nT _ _ e1) (mm.new nT) (zip_mv (hdo.same sa) nT e1 ((md.fresh nD).same sa) ((md'.fresh nD).same sa)) (tg_tup (tgs_cons tg_name (tgs_cons tg_name tgs_nil)) rfl) ?_ et_yes (fun _ => he d (List.mem_of_getElem? hd1)) (fun _ H5 zs s5 e5 m5 => ⟨hlt, zs, s5, e5, ?_⟩) (fun z => nomatch z)
            · rw [List.length_map]
              exact Nat.lt_of_le_of_lt (by rw [List.length_take]; exact Nat.min_le_right ..) hz
            · rw [List.take_add_one, hd1, List.map_append]
              exact m5
          · have ei : i = xs.length := by omega
            subst ei
            refine .inl ⟨⟨xs, ys, SqL.of (sa _ _ e), SqL.of (sa _ _ e2), .inl (Nat.le_refl _)⟩, ?_⟩
            rw [List.take_of_length_le (by omega)] at mm
            exact q Dl zs H (s1.free nD) (s1.trans sa) e1 mm
theorem en_lcZT (ed : D → D) (h : EvA ta ρ [.tup ds, .tup ds]) (hz : ds.length < 100000) (he : ∀ d, d ∈ ds → EvD te (((wipeE ρ [j1, j2]).set j1 (some d)).set j2 (some d)) (ed d)) :
    EvN (tLc (RZ.iZipA K ta) (gTup K 2 (gCons (gName j1) (gCons (gName j2) gNil))) tYes te [j1, j2]) ρ (ds.map ed) := by
  intro O σ H hd hr Q q
  refine h O σ H hd hr _ fun vs H1 s1 m1 => ?_
  cases m1 with
  | cons m1 m2 =>
    cases m2 with
    | cons m2 m3 =>
      cases m3
      cases m1 with
      | tup n e r =>
        rename_i a xs
        cases m2 with
        | tup n2 e2 r2 =>
          rename_i b ys
          have hl : xs.length = ds.length := r.length
          have hl2 : ys.length = ds.length := r2.length
          refine ⟨a, b, xs, ys, rfl, .inr ⟨SqT.of e, SqT.of e2, fun Dl nD => ?_⟩⟩
          refine ⟨fun i m H => m = xs.length - i ∧ i ≤ xs.length ∧ ∃ zs, Same H1 H ∧ H Dl = some (.lst zs) ∧ DmL (O.and Dl) H zs ((ds.take i).map ed), ⟨_, rfl, Nat.zero_le _, [], Same.new nD, upd_same, .nil⟩, ?_⟩
          rintro i m H ⟨rfl, hi, zs, sa, e1, mm⟩
          by_cases hlt : i < xs.length
          · refine .inr ⟨⟨xs, ys, xs[i], ys[i], SqT.of (sa _ _ e), SqT.of (sa _ _ e2), by simp, by simp⟩, fun H => i + 1 ≤ xs.length ∧ ∃ zs, Same H1 H ∧ H Dl = some (.lst zs) ∧ DmL (O.and Dl) H zs ((ds.take (i + 1)).map ed), fun H' z => ⟨xs.length - (i + 1), by omega, rfl, z.1, z.2⟩, fun v H' y => ?_⟩
            obtain ⟨T, x, y, rfl, nT, rfl, f1, f2⟩ := y
            obtain ⟨d, hd1, md⟩ := r.getV (f1 xs (SqT.of (sa _ _ e)))
            obtain ⟨d', hd2, md'⟩ := r2.getV (f2 ys (SqT.of (sa _ _ e2)))
            rw [hd1] at hd2
            cases hd2
            have hdo := (hd.same s1)
            refine lc_turn (b := true) (d := .tup [d, d]) (f := fun ρ => (ρ.set j1 (some d)).set j2 (some d)) hdo (Rz.same hr s1) nD (sa.trans (Same.new nT)) (Same.new nT _ _ e1) (mm.new nT) (zip_mv (hdo.same sa) nT e1 ((md.fresh nD).same sa) ((md'.fresh nD).same sa)) (tg_tup (tgs_cons tg_name (tgs_cons tg_name tgs_nil)) rfl) ?_ et_yes (fun _ => he d (List.mem_of_getElem? hd1)) (fun _ H5 zs s5 e5 m5 => ⟨hlt, zs, s5, e5, ?_⟩) (fun z => nomatch z)
            · rw [List.length_map]
              exact Nat.lt_of_le_of_lt (by rw [List.length_take]; exact Nat.min_le_right ..) hz
            · rw [List.take_add_one, hd1, List.map_append]
              exact m5
          · have ei : i = xs.length := by omega
            subst ei
            refine .inl ⟨⟨xs, ys, SqT.of (sa _ _ e), SqT.of (sa _ _ e2), .inl (Nat.le_refl _)⟩, ?_⟩
            rw [List.take_of_length_le (by omega)] at mm
            exact q Dl zs H (s1.free nD) (s1.trans sa) e1 mm
end
end Wt

/-! WtV: what a deed leaves right. -/
namespace Wt
open PySem PySem.Spec PyProof.Rows L2

section
variable {α : Type}
theorem put_self {l : List (Str × α)} {x : Str} {v : α} (hn : (l.map (·.1)).Nodup) (h : look l x = some v) : put l x v = l := by
  induction l with
  | nil => rfl
  | cons p l ih =>
    rw [List.map_cons, List.nodup_cons] at hn
    rw [look_cons] at h
    show (if p.1 = x then (p.1, v) else p) :: put l x v = p :: l
    by_cases e : p.1 = x
    · rw [if_pos e] at h ⊢
      have e2 : p.2 = v := Option.some.inj h
      have e3 : put l x v = l := by
        unfold put
        conv => rhs; rw [← List.map_id l]
        apply List.map_congr_left
        intro q hq
        rw [if_neg]
        · rfl
        · intro z
          exact hn.1 (by rw [e, ← z]; exact List.mem_map.mpr ⟨q, hq, rfl⟩)
      rw [e3, ← e2]
    · rw [if_neg e] at h ⊢
      rw [ih hn.2 h]
theorem look_put_self {l : List (Str × α)} {x : Str} {v : α} (h : x ∈ l.map (·.1)) : look (put l x v) x = some v := by
  rw [look_put, if_pos rfl]
  obtain ⟨w, e⟩ := look_some h
  rw [e]
  rfl
theorem look_put_ne {l : List (Str × α)} {x y : Str} {v : α} (h : ¬ y = x) : look (put l x v) y = look l y := by
  rw [look_put, if_neg h]
theorem put_len (l : List (Str × α)) (x : Str) (v : α) : (put l x v).length = l.length := List.length_map ..
end
theorem nodup_le : ∀ {l m : List Str}, l.Nodup → (∀ x, x ∈ l → x ∈ m) → l.length ≤ m.length
  | [], _, _, _ => Nat.zero_le _
  | x :: l, m, hn, h => by
    rw [List.nodup_cons] at hn
    have hx := h x (by simp)
    have ih := nodup_le (m := m.erase x) hn.2 fun y hy => by
      have hy2 := h y (by simp [hy])
      have ne : y ≠ x := fun z => hn.1 (by rw [← z]; exact hy)
      exact (List.mem_erase_of_ne ne).mpr hy2
    rw [List.length_erase_of_mem hx] at ih
    have : 0 < m.length := List.length_pos_of_mem hx
    rw [List.length_cons]
    omega
section
variable {l : List (Str × Wh)} {w w0 r r0 : Wh} {c c0 : List (Bool × Str)} {x : Str}
theorem Chain.at (k : Chain l w c r) : ∀ {i : Nat} {p : Bool × Str}, c[i]? = some p → ∃ w', look l p.2 = some w' ∧ Chain l w' (c.drop (i + 1)) r := by
  induction k with
  | at_ p => intro i p h; simp at h
  | with_ => intro i p h; simp at h
  | nowhere => intro i p h; simp at h
  | in_ e k ih =>
    intro i p h
    cases i with
    | zero =>
      have e2 : _ = p := Option.some.inj h
      subst e2
      exact ⟨_, e, k⟩
    | succ i => exact ih h
  | on_ e k ih =>
    intro i p h
    cases i with
    | zero =>
      have e2 : _ = p := Option.some.inj h
      subst e2
      exact ⟨_, e, k⟩
    | succ i => exact ih h
theorem Chain.notin {b : Bool} {h : Str} {w' : Wh} (e : look l h = some w') (k : Chain l w' c r) : h ∉ c.map (·.2) := by
  intro m
  obtain ⟨p, hp, ep⟩ := List.mem_map.mp m
  obtain ⟨i, hi, e2⟩ := List.mem_iff_getElem.mp hp
  obtain ⟨w2, e3, k2⟩ := k.at (i := i) (p := p) (by rw [List.getElem?_eq_getElem hi, e2])
  rw [ep, e] at e3
  have e4 := Option.some.inj e3
  subst e4
  have q := (k.det k2).1
  have q2 := congrArg List.length q
  rw [List.length_drop] at q2
  omega
theorem Chain.nodup (k : Chain l w c r) : (c.map (·.2)).Nodup := by
  induction k with
  | at_ p => exact List.nodup_nil
  | with_ => exact List.nodup_nil
  | nowhere => exact List.nodup_nil
  | in_ e k ih => exact List.nodup_cons.mpr ⟨Chain.notin (b := true) e k, ih⟩
  | on_ e k ih => exact List.nodup_cons.mpr ⟨Chain.notin (b := true) e k, ih⟩
theorem Chain.keys (k : Chain l w c r) : ∀ y, y ∈ c.map (·.2) → y ∈ l.map (·.1) := by
  induction k with
  | at_ p => intro y hy; cases hy
  | with_ => intro y hy; cases hy
  | nowhere => intro y hy; cases hy
  | in_ e k ih =>
    intro y hy
    rcases List.mem_cons.mp hy with z | z
    · rw [z]
      exact look_key e
    · exact ih y z
  | on_ e k ih =>
    intro y hy
    rcases List.mem_cons.mp hy with z | z
    · rw [z]
      exact look_key e
    · exact ih y z
theorem Chain.short (k : Chain l w c r) : c.length ≤ l.length := by
  have := nodup_le k.nodup k.keys
  rw [List.length_map, List.length_map] at this
  exact this
/-- a thing put elsewhere -/
theorem Chain.put {v : Wh} (k : Chain l w c r) : x ∉ c.map (·.2) → Chain (put l x v) w c r := by
  induction k with
  | at_ p => intro _; exact .at_ p
  | with_ => intro _; exact .with_
  | nowhere => intro _; exact .nowhere
  | in_ e k ih =>
    intro hn
    rw [List.map_cons, List.mem_cons, not_or] at hn
    exact .in_ (by rw [look_put_ne fun z => hn.1 z.symm]; exact e) (ih hn.2)
  | on_ e k ih =>
    intro hn
    rw [List.map_cons, List.mem_cons, not_or] at hn
    exact .on_ (by rw [look_put_ne fun z => hn.1 z.symm]; exact e) (ih hn.2)
theorem Chain.moved {v : Wh} (hx : x ∈ l.map (·.1)) (kv : Chain (Wt.put l x v) v c r) (k : Chain l w0 c0 r0) : ∃ c' r', Chain (Wt.put l x v) w0 c' r' := by
  induction k with
  | at_ p => exact ⟨_, _, .at_ p⟩
  | with_ => exact ⟨_, _, .with_⟩
  | nowhere => exact ⟨_, _, .nowhere⟩
  | @in_ h w1 r1 c1 e k ih =>
    by_cases z : h = x
    · exact ⟨_, _, .in_ (w := v) (by rw [z]; exact look_put_self hx) kv⟩
    · obtain ⟨c', r', k'⟩ := ih
      exact ⟨_, _, .in_ (by rw [look_put_ne z]; exact e) k'⟩
  | @on_ h w1 r1 c1 e k ih =>
    by_cases z : h = x
    · exact ⟨_, _, .on_ (w := v) (by rw [z]; exact look_put_self hx) kv⟩
    · obtain ⟨c', r', k'⟩ := ih
      exact ⟨_, _, .on_ (by rw [look_put_ne z]; exact e) k'⟩
end

def moveS (s : Sta) (x : Str) (w : Wh) : Sta := { s with whs := put s.whs x w, worn := put s.worn x (wornF s x && decide (w = .with_)) }
def openS (s : Sta) (x : Str) (b : Bool) : Sta := { s with ops := put s.ops x b }
def wearS (s : Sta) (x : Str) (b : Bool) : Sta := { s with worn := put s.worn x b }
def numS (s : Sta) (x : Str) (n : Int) : Sta := { s with nums := put s.nums x n }
def goS (s : Sta) (p : Str) : Sta := { s with here := p }
def turnS (s : Sta) : Sta := { s with turn := s.turn + 1 }
structure MoveOk (m : Mo) (s : Sta) (x : Str) (w : Wh) : Prop where
  nm : x ∈ m.names
  nd : hasT m x "door" = false
  wh : WhOk m w
  ch : ∃ c r, Chain s.whs w c r ∧ x ∉ c.map (·.2)
section
variable {m : Mo} {s : Sta} {x : Str} {w : Wh}
theorem WF.whl (wf : WF m s) : s.whs.length ≤ 12 := by
  have := congrArg List.length wf.wk
  rw [List.length_map, List.length_map] at this
  rw [this]
  exact wf.wm.tl
theorem WF.opsl (wf : WF m s) : s.ops.length ≤ 12 := by
  have := congrArg List.length wf.ok
  rw [List.length_map, List.length_map] at this
  rw [this]
  exact Nat.le_trans (List.length_filter_le ..) wf.wm.tl
theorem WF.wornl (wf : WF m s) : s.worn.length ≤ 12 := by
  have := congrArg List.length wf.wok
  rw [List.length_map, List.length_map] at this
  rw [this]
  exact wf.wm.tl
theorem WF.numsl (wf : WF m s) : s.nums.length ≤ 6 := by
  have := congrArg List.length wf.nk
  rw [List.length_map, List.length_map] at this
  rw [this]
  exact wf.wm.sl
theorem wornM (wf : WF m s) (w : Wh) (hx : x ∈ m.names) : put s.worn x (wornF s x && decide (w = .with_)) = if w = .with_ then s.worn else put s.worn x false := by
  by_cases h : w = .with_
  · rw [if_pos h, decide_eq_true h, Bool.and_true]
    obtain ⟨b, e⟩ := wf.worn_ hx
    refine put_self (by rw [wf.wok]; exact wf.wm.tn) ?_
    unfold wornF
    rw [e]
    rfl
  · rw [if_neg h, decide_eq_false h, Bool.and_false]
theorem WF.move (wf : WF m s) (h : MoveOk m s x w) : WF m (moveS s x w) := by
  obtain ⟨c, r, k, hc⟩ := h.ch
  have hx : x ∈ s.whs.map (·.1) := by rw [wf.wk]; exact h.nm
  have kk : (put s.whs x w).map (·.1) = m.names := by rw [put_keys]; exact wf.wk
  exact { wm := wf.wm, wk := kk, ok := wf.ok, wok := by show (put s.worn x _).map (·.1) = _; rw [put_keys]; exact wf.wok, nk := wf.nk, hk := wf.hk
          wv := fun y v e => by
            have e : look (put s.whs x w) y = some v := e
            by_cases z : y = x
            · rw [z, look_put_self hx] at e
              cases e
              exact h.wh
            · rw [look_put_ne z] at e
              exact wf.wv y v e
          dw := fun y t ht hd => by
            show look (put s.whs x w) y = _
            by_cases z : y = x
            · have q := h.nd
              unfold hasT at q
              rw [← z, ht] at q
              exact absurd hd (of_decide_eq_false q)
            · rw [look_put_ne z]
              exact wf.dw y t ht hd
          ch := fun y v e => by
            have e : look (put s.whs x w) y = some v := e
            have kv := k.put (x := x) (v := w) hc
            have main : ∃ c' r', Chain (put s.whs x w) v c' r' := by
              by_cases z : y = x
              · rw [z, look_put_self hx] at e
                cases e
                exact ⟨c, r, kv⟩
              · rw [look_put_ne z] at e
                obtain ⟨c0, r0, k0, _⟩ := wf.ch y v e
                exact Chain.moved hx kv k0
            obtain ⟨c', r', k'⟩ := main
            refine ⟨c', r', k', ?_⟩
            have q := k'.short
            rw [put_len] at q
            exact Nat.le_trans q wf.whl }
theorem WF.open_ {b : Bool} (wf : WF m s) : WF m (openS s x b) :=
  { wm := wf.wm, wk := wf.wk, ok := by show (put s.ops x b).map (·.1) = _; rw [put_keys]; exact wf.ok, wok := wf.wok, nk := wf.nk, hk := wf.hk, wv := wf.wv, dw := wf.dw, ch := wf.ch }
theorem WF.wear {b : Bool} (wf : WF m s) : WF m (wearS s x b) :=
  { wm := wf.wm, wk := wf.wk, ok := wf.ok, wok := by show (put s.worn x b).map (·.1) = _; rw [put_keys]; exact wf.wok, nk := wf.nk, hk := wf.hk, wv := wf.wv, dw := wf.dw, ch := wf.ch }
theorem WF.num {n : Int} (wf : WF m s) : WF m (numS s x n) :=
  { wm := wf.wm, wk := wf.wk, ok := wf.ok, wok := wf.wok, nk := by show (put s.nums x n).map (·.1) = _; rw [put_keys]; exact wf.nk, hk := wf.hk, wv := wf.wv, dw := wf.dw, ch := wf.ch }
theorem WF.go {p : Str} (wf : WF m s) (h : p ∈ m.pnames) : WF m (goS s p) :=
  { wm := wf.wm, wk := wf.wk, ok := wf.ok, wok := wf.wok, nk := wf.nk, hk := h, wv := wf.wv, dw := wf.dw, ch := wf.ch }
theorem WF.turn_ (wf : WF m s) : WF m (turnS s) :=
  { wm := wf.wm, wk := wf.wk, ok := wf.ok, wok := wf.wok, nk := wf.nk, hk := wf.hk, wv := wf.wv, dw := wf.dw, ch := wf.ch }
end
end Wt

/-! WtU: what changes: the state's and the own dict's objects. -/
namespace Wt
open PySem PySem.Spec PyProof.Rows L2

def mt : Mask := fun _ => False
theorem dom_mt {H : Hp} : Dom mt H := fun _ z => z.elim
/-- what stood is kept, outside X -/
def Fr (X : Mask) (H H2 : Hp) : Prop := ∀ b o, ¬ X b → H b = some o → H2 b = some o
section
variable {X O : Mask} {H H2 H3 : Hp} {v : V} {d : D} {p : Addr} {o : HO}
theorem Fr.refl : Fr X H H := fun _ _ _ e => e
theorem Fr.trans (h : Fr X H H2) (k : Fr X H2 H3) : Fr X H H3 := fun b o n e => k b o n (h b o n e)
theorem Fr.of (h : Same H H2) : Fr X H H2 := fun b o _ e => h b o e
theorem Fr.upd (h : X p) : Fr X H (upd H p o) := fun b u n e => by rw [upd_ne fun z => n (by rw [z]; exact h)]; exact e
theorem Fr.sub {Y : Mask} (h : Fr X H H2) (s : ∀ b, X b → Y b) : Fr Y H H2 := fun b o n e => h b o (fun z => n (s b z)) e
theorem Fr.kp (h : Fr X H H2) (s : ∀ b, X b → O b) : Kp O H H2 := .of fun b o n e => h b o (fun z => n (s b z)) e
theorem Dm.fr (m : Dm O H v d) (f : Fr X H H2) (s : ∀ b, X b → O b) : Dm O H2 v d := Dm.kp (f.kp s) (fun _ z => .inl z) m
theorem DmL.fr {vs : List V} {ds : List D} (m : DmL O H vs ds) (f : Fr X H H2) (s : ∀ b, X b → O b) : DmL O H2 vs ds := DmL.kp (f.kp s) (fun _ z => .inl z) m
theorem DmK.fr {vs : List (Key × V)} {ds : List (Str × D)} (m : DmK O H vs ds) (f : Fr X H H2) (s : ∀ b, X b → O b) : DmK O H2 vs ds := DmK.kp (f.kp s) (fun _ z => .inl z) m
theorem Dm.toM (m : Dm O H v d) : Dm mt H v d := m.sub fun _ z => z.elim
theorem DmK.toM {vs : List (Key × V)} {ds : List (Str × D)} (m : DmK O H vs ds) : DmK mt H vs ds := m.sub fun _ z => z.elim
theorem DmL.toM {vs : List V} {ds : List D} (m : DmL O H vs ds) : DmL mt H vs ds := m.sub fun _ z => z.elim
end
mutual
/-- tuples, texts, ints, truths -/
def D.tu : D → Bool
  | .tup xs => D.tuL xs
  | .str _ => true
  | .int _ => true
  | .bl _ => true
  | .non => true
  | _ => false
def D.tuL : List D → Bool
  | [] => true
  | d :: ds => d.tu && D.tuL ds
end
section
variable {O : Mask} {H : Hp}
mutual
theorem Dm.lift (h : ∀ b xs, O b → H b ≠ some (.tup xs)) : ∀ {v : V} {d : D}, Dm mt H v d → d.tu = true → Dm O H v d
  | _, _, .non, _ => .non
  | _, _, .bl b, _ => .bl b
  | _, _, .int i, _ => .int i
  | _, _, .str x, _ => .str x
  | _, _, .ty x, e => by unfold D.tu at e; cases e
  | _, _, .lst n q r, e => by unfold D.tu at e; cases e
  | _, _, .tup n q r, e => by
    unfold D.tu at e
    exact .tup (fun z => h _ _ z q) q (DmL.lift h r e)
  | _, _, .dic n q r, e => by unfold D.tu at e; cases e
  | _, _, .obj n q r, e => by unfold D.tu at e; cases e
theorem DmL.lift (h : ∀ b xs, O b → H b ≠ some (.tup xs)) : ∀ {vs : List V} {ds : List D}, DmL mt H vs ds → D.tuL ds = true → DmL O H vs ds
  | _, _, .nil, _ => .nil
  | _, _, .cons q r, e => by
    unfold D.tuL at e
    obtain ⟨e1, e2⟩ := Bool.and_eq_true_iff.mp e
    exact .cons (Dm.lift h q e1) (DmL.lift h r e2)
end
end
theorem tu_strs : ∀ l : List Str, D.tuL (l.map D.str) = true
  | [] => by unfold D.tuL; rfl
  | x :: l => by
    rw [List.map_cons]
    unfold D.tuL
    rw [tu_strs l]
    rfl
theorem tu_wh (w : Wh) : w.d.tu = true := by cases w <;> rfl

inductive RzL (H : Hp) : Env → L2.St → Prop where
  | nil : RzL H [] []
  | no {o : Option V} {ρ : Env} {σ : L2.St} (r : RzL H ρ σ) : RzL H (none :: ρ) (o :: σ)
  | on {v : V} {d : D} {ρ : Env} {σ : L2.St} (m : Dm mt H v d) (r : RzL H ρ σ) : RzL H (some d :: ρ) (some v :: σ)
theorem RzL.rz {H : Hp} : ∀ {ρ : Env} {σ : L2.St}, RzL H ρ σ → Rz mt ρ σ H
  | _, _, .nil => ⟨rfl, fun i d e => by simp at e⟩
  | _, _, .no r => ⟨congrArg (· + 1) r.rz.len, fun i d e => by
    cases i with
    | zero => cases e
    | succ i => exact r.rz.at_ i d e⟩
  | _, _, .on m r => ⟨congrArg (· + 1) r.rz.len, fun i d e => by
    cases i with
    | zero =>
      have e2 : _ = d := Option.some.inj (Option.some.inj e)
      rw [← e2]
      exact ⟨_, rfl, m⟩
    | succ i => exact r.rz.at_ i d e⟩
theorem Rz.dm {O : Mask} {ρ : Env} {σ : L2.St} {H : Hp} (r : Rz O ρ σ H) {i : Nat} {d : D} {v : V} (h : ρ[i]? = some (some d)) (hs : σ[i]? = some (some v)) : Dm O H v d := by
  obtain ⟨w, e, m⟩ := r.at_ i d h
  rw [hs] at e
  cases e
  exact m
section
variable {ρ : Env} {σ : L2.St} {H : Hp} {D' : Ends} {te td ty : TE} {t : TT} {t1 t2 : TS} {d : D} {b : Bool} {i : Nat}
theorem u_seq (h : t1 { D' with nx := t2 D' } σ H) : tSeq t1 t2 D' σ H := h
theorem u_asg (h : EvD te ρ d) (rz : Rz mt ρ σ H) (k : ∀ v H2, Same H H2 → Dm mt H2 v d → Rz mt (ρ.set i (some d)) (σ.set i (some v)) H2 → D'.nx (σ.set i (some v)) H2) : tAsg te (gName i) D' σ H :=
  h mt σ H dom_mt rz _ fun v H2 s2 m2 => k v H2 s2 m2 ((Rz.same rz s2).set m2)
theorem u_drop (h : EvD te ρ d) (rz : Rz mt ρ σ H) (k : ∀ H2, Same H H2 → Rz mt ρ σ H2 → D'.nx σ H2) : tDrop te D' σ H :=
  h mt σ H dom_mt rz _ fun v H2 s2 m2 => k H2 s2 (Rz.same rz s2)
theorem u_if (h : EvT t ρ b) (rz : Rz mt ρ σ H) (h1 : b = true → ∀ H2, Same H H2 → Rz mt ρ σ H2 → t1 D' σ H2) (h2 : b = false → ∀ H2, Same H H2 → Rz mt ρ σ H2 → t2 D' σ H2) : tIfS t t1 t2 D' σ H := by
  refine h mt σ H dom_mt rz _ fun H2 s2 => ?_
  cases b with
  | true => exact h1 rfl H2 s2 (Rz.same rz s2)
  | false => exact h2 rfl H2 s2 (Rz.same rz s2)
theorem u_when (h : EvT t ρ b) (rz : Rz mt ρ σ H) (h1 : b = true → ∀ H2, Same H H2 → Rz mt ρ σ H2 → t1 { D' with nx := t2 D' } σ H2) (h2 : b = false → ∀ H2, Same H H2 → Rz mt ρ σ H2 → t2 D' σ H2) : tSeq (tIfS t t1 tNext) t2 D' σ H := u_if (D' := { D' with nx := t2 D' }) h rz h1 h2
theorem u_put {p : Addr} {key : Str} {xs : List (Key × V)} (hv : EvD te ρ d) (hk : EvD ty ρ (.str key)) (rz : Rz mt ρ σ H) (hd : ∀ H', Same H H' → ∀ Q : VK, Q (.ref p) H' → td σ H' Q) (hp : H p = some (.dK xs)) (hz : xs.length < 100000)
    (k : ∀ v H', Same H H' → Dm mt H' v d → D'.nx σ (upd H' p (.dK (putK xs (.inr key) v)))) : sDPut td ty te D' σ H :=
  hv mt σ H dom_mt rz _ fun v H1 s1 m1 => hd H1 s1 _ (hk mt σ H1 dom_mt (Rz.same rz s1) _ fun kv H2 s2 m2 => by
    cases m2
    have s3 := s1.trans s2
    exact ⟨p, _, rfl, .inl ⟨xs, .inr key, s3 _ _ hp, rfl, sz_lt hz, rfl⟩, k v H2 s3 (m1.same s2)⟩)
end

/-! ### the state's objects -/
structure Ads where
  st : Addr
  wh : Addr
  ld : Addr
  dr : Addr
  ct : Addr
def Ads.l (A : Ads) : List Addr := [A.st, A.wh, A.ld, A.dr, A.ct]
def stF (A : Ads) (s : Sta) (vT vR vO vY : V) : List (Str × V) := [("tale", vT), ("rows", vR), ("rooms", vO), ("ways", vY), ("spot", .str s.here), ("moment", .int s.turn), ("wheres", .ref A.wh), ("lids", .ref A.ld), ("dressed", .ref A.dr), ("counts", .ref A.ct)]
structure St (O : Mask) (H : Hp) (S W : Addr) (A : Ads) (m : Mo) (s : Sta) : Prop where
  nd : A.l.Nodup
  inO : ∀ b, b ∈ A.l → O b
  ob : ∃ dx vT vR vO vY, H A.st = some (.ins S dx (stF A s vT vR vO vY)) ∧ Dm O H vT (woD W m) ∧ Dm O H vR (.dic (rowsD m.things)) ∧ Dm O H vO (.dic (blsD m.places)) ∧ Dm O H vY (.lst (m.ways.map Way.d))
  wh : ∃ ws, H A.wh = some (.dK ws) ∧ DmK O H ws (whsD s.whs)
  ld : ∃ ws, H A.ld = some (.dK ws) ∧ DmK O H ws (blsD s.ops)
  dr : ∃ ws, H A.dr = some (.dK ws) ∧ DmK O H ws (blsD s.worn)
  ct : ∃ ws, H A.ct = some (.dK ws) ∧ DmK O H ws (numsD s.nums)
theorem Ads.ne {A : Ads} (h : A.l.Nodup) : (A.wh ≠ A.st ∧ A.ld ≠ A.st ∧ A.dr ≠ A.st ∧ A.ct ≠ A.st) ∧ (A.ld ≠ A.wh ∧ A.dr ≠ A.wh ∧ A.ct ≠ A.wh) ∧ (A.dr ≠ A.ld ∧ A.ct ≠ A.ld) ∧ A.ct ≠ A.dr := by
  unfold Ads.l at h
  simp only [List.nodup_cons, List.mem_cons, not_or, List.not_mem_nil, not_false_eq_true, and_true] at h
  obtain ⟨⟨a, b, c, d⟩, ⟨e, f, g⟩, ⟨i, j⟩, k⟩ := h
  exact ⟨⟨Ne.symm a, Ne.symm b, Ne.symm c, Ne.symm d⟩, ⟨Ne.symm e, Ne.symm f, Ne.symm g⟩, ⟨Ne.symm i, Ne.symm j⟩, Ne.symm k.1⟩
section
variable {O X : Mask} {H H2 : Hp} {S W : Addr} {A : Ads} {m : Mo} {s : Sta}
theorem St.dm (h : St O H S W A m s) : Dm mt H (.ref A.st) (stD S W m s) := by
  obtain ⟨dx, vT, vR, vO, vY, e, m1, m2, m3, m4⟩ := h.ob
  obtain ⟨w1, e1, k1⟩ := h.wh
  obtain ⟨w2, e2, k2⟩ := h.ld
  obtain ⟨w3, e3, k3⟩ := h.dr
  obtain ⟨w4, e4, k4⟩ := h.ct
  exact .obj (fun z => z) e (.cons m1.toM (.cons m2.toM (.cons m3.toM (.cons m4.toM (.cons (.str _) (.cons (.int _) (.cons (.dic (fun z => z) (.inl e1) k1.toM) (.cons (.dic (fun z => z) (.inl e2) k2.toM) (.cons (.dic (fun z => z) (.inl e3) k3.toM) (.cons (.dic (fun z => z) (.inl e4) k4.toM) .nil))))))))))
theorem St.fr (h : St O H S W A m s) (f : Fr X H H2) (hx : ∀ b, X b → O b) (hd : ∀ b, b ∈ A.l → ¬ X b) : St O H2 S W A m s := by
  obtain ⟨dx, vT, vR, vO, vY, e, m1, m2, m3, m4⟩ := h.ob
  obtain ⟨w1, e1, k1⟩ := h.wh
  obtain ⟨w2, e2, k2⟩ := h.ld
  obtain ⟨w3, e3, k3⟩ := h.dr
  obtain ⟨w4, e4, k4⟩ := h.ct
  exact ⟨h.nd, h.inO, ⟨dx, vT, vR, vO, vY, f _ _ (hd _ (by simp [Ads.l])) e, m1.fr f hx, m2.fr f hx, m3.fr f hx, m4.fr f hx⟩, ⟨w1, f _ _ (hd _ (by simp [Ads.l])) e1, k1.fr f hx⟩, ⟨w2, f _ _ (hd _ (by simp [Ads.l])) e2, k2.fr f hx⟩, ⟨w3, f _ _ (hd _ (by simp [Ads.l])) e3, k3.fr f hx⟩, ⟨w4, f _ _ (hd _ (by simp [Ads.l])) e4, k4.fr f hx⟩⟩
theorem St.same (h : St O H S W A m s) (f : Same H H2) : St O H2 S W A m s := h.fr (X := mt) (Fr.of f) (fun _ z => z.elim) (fun _ _ z => z)
theorem St.setWh {ws : List (Key × V)} {l : List (Str × Wh)} (h : St O H S W A m s) (k : DmK O H ws (whsD l)) : St O (upd H A.wh (.dK ws)) S W A m { s with whs := l } := by
  obtain ⟨dx, vT, vR, vO, vY, e, m1, m2, m3, m4⟩ := h.ob
  obtain ⟨w2, e2, k2⟩ := h.ld
  obtain ⟨w3, e3, k3⟩ := h.dr
  obtain ⟨w4, e4, k4⟩ := h.ct
  have hp := h.inO A.wh (by simp [Ads.l])
  obtain ⟨n1, n2, n3, n4⟩ := Ads.ne h.nd
  exact ⟨h.nd, h.inO, ⟨dx, vT, vR, vO, vY, by rw [upd_ne (Ne.symm n1.1)]; exact e, m1.updO hp, m2.updO hp, m3.updO hp, m4.updO hp⟩, ⟨ws, upd_same, k.updO hp⟩, ⟨w2, by rw [upd_ne n2.1]; exact e2, k2.updO hp⟩, ⟨w3, by rw [upd_ne n2.2.1]; exact e3, k3.updO hp⟩, ⟨w4, by rw [upd_ne n2.2.2]; exact e4, k4.updO hp⟩⟩
theorem St.setLd {ws : List (Key × V)} {l : List (Str × Bool)} (h : St O H S W A m s) (k : DmK O H ws (blsD l)) : St O (upd H A.ld (.dK ws)) S W A m { s with ops := l } := by
  obtain ⟨dx, vT, vR, vO, vY, e, m1, m2, m3, m4⟩ := h.ob
  obtain ⟨w1, e1, k1⟩ := h.wh
  obtain ⟨w3, e3, k3⟩ := h.dr
  obtain ⟨w4, e4, k4⟩ := h.ct
  have hp := h.inO A.ld (by simp [Ads.l])
  obtain ⟨n1, n2, n3, n4⟩ := Ads.ne h.nd
  exact ⟨h.nd, h.inO, ⟨dx, vT, vR, vO, vY, by rw [upd_ne (Ne.symm n1.2.1)]; exact e, m1.updO hp, m2.updO hp, m3.updO hp, m4.updO hp⟩, ⟨w1, by rw [upd_ne (Ne.symm n2.1)]; exact e1, k1.updO hp⟩, ⟨ws, upd_same, k.updO hp⟩, ⟨w3, by rw [upd_ne n3.1]; exact e3, k3.updO hp⟩, ⟨w4, by rw [upd_ne n3.2]; exact e4, k4.updO hp⟩⟩
theorem St.setDr {ws : List (Key × V)} {l : List (Str × Bool)} (h : St O H S W A m s) (k : DmK O H ws (blsD l)) : St O (upd H A.dr (.dK ws)) S W A m { s with worn := l } := by
  obtain ⟨dx, vT, vR, vO, vY, e, m1, m2, m3, m4⟩ := h.ob
  obtain ⟨w1, e1, k1⟩ := h.wh
  obtain ⟨w2, e2, k2⟩ := h.ld
  obtain ⟨w4, e4, k4⟩ := h.ct
  have hp := h.inO A.dr (by simp [Ads.l])
  obtain ⟨n1, n2, n3, n4⟩ := Ads.ne h.nd
  exact ⟨h.nd, h.inO, ⟨dx, vT, vR, vO, vY, by rw [upd_ne (Ne.symm n1.2.2.1)]; exact e, m1.updO hp, m2.updO hp, m3.updO hp, m4.updO hp⟩, ⟨w1, by rw [upd_ne (Ne.symm n2.2.1)]; exact e1, k1.updO hp⟩, ⟨w2, by rw [upd_ne (Ne.symm n3.1)]; exact e2, k2.updO hp⟩, ⟨ws, upd_same, k.updO hp⟩, ⟨w4, by rw [upd_ne n4]; exact e4, k4.updO hp⟩⟩
theorem St.setCt {ws : List (Key × V)} {l : List (Str × Int)} (h : St O H S W A m s) (k : DmK O H ws (numsD l)) : St O (upd H A.ct (.dK ws)) S W A m { s with nums := l } := by
  obtain ⟨dx, vT, vR, vO, vY, e, m1, m2, m3, m4⟩ := h.ob
  obtain ⟨w1, e1, k1⟩ := h.wh
  obtain ⟨w2, e2, k2⟩ := h.ld
  obtain ⟨w3, e3, k3⟩ := h.dr
  have hp := h.inO A.ct (by simp [Ads.l])
  obtain ⟨n1, n2, n3, n4⟩ := Ads.ne h.nd
  exact ⟨h.nd, h.inO, ⟨dx, vT, vR, vO, vY, by rw [upd_ne (Ne.symm n1.2.2.2)]; exact e, m1.updO hp, m2.updO hp, m3.updO hp, m4.updO hp⟩, ⟨w1, by rw [upd_ne (Ne.symm n2.2.2)]; exact e1, k1.updO hp⟩, ⟨w2, by rw [upd_ne (Ne.symm n3.2)]; exact e2, k2.updO hp⟩, ⟨w3, by rw [upd_ne (Ne.symm n4)]; exact e3, k3.updO hp⟩, ⟨ws, upd_same, k.updO hp⟩⟩
theorem St.setOb {s2 : Sta} (h : St O H S W A m s) (h1 : s2.whs = s.whs) (h2 : s2.ops = s.ops) (h3 : s2.worn = s.worn) (h4 : s2.nums = s.nums) {dx : Addr} {vT vR vO vY : V} (e0 : H A.st = some (.ins S dx (stF A s vT vR vO vY))) :
    St O (upd H A.st (.ins S dx (stF A s2 vT vR vO vY))) S W A m s2 := by
  obtain ⟨dx', vT', vR', vO', vY', e, m1, m2, m3, m4⟩ := h.ob
  obtain ⟨w1, e1, k1⟩ := h.wh
  obtain ⟨w2, e2, k2⟩ := h.ld
  obtain ⟨w3, e3, k3⟩ := h.dr
  obtain ⟨w4, e4, k4⟩ := h.ct
  have hp := h.inO A.st (by simp [Ads.l])
  obtain ⟨n1, n2, n3, n4⟩ := Ads.ne h.nd
  rw [e0] at e
  cases e
  exact ⟨h.nd, h.inO, ⟨dx, vT, vR, vO, vY, upd_same, m1.updO hp, m2.updO hp, m3.updO hp, m4.updO hp⟩, ⟨w1, by rw [upd_ne n1.1]; exact e1, by rw [h1]; exact k1.updO hp⟩, ⟨w2, by rw [upd_ne n1.2.1]; exact e2, by rw [h2]; exact k2.updO hp⟩, ⟨w3, by rw [upd_ne n1.2.2.1]; exact e3, by rw [h3]; exact k3.updO hp⟩, ⟨w4, by rw [upd_ne n1.2.2.2]; exact e4, by rw [h4]; exact k4.updO hp⟩⟩
theorem putD_wh {l : List (Str × Wh)} {x : Str} {w : Wh} (h : x ∈ l.map (·.1)) : putD (whsD l) x w.d = whsD (put l x w) := putD_map Wh.d l x w h
theorem putD_bl {l : List (Str × Bool)} {x : Str} {b : Bool} (h : x ∈ l.map (·.1)) : putD (blsD l) x (.bl b) = blsD (put l x b) := putD_map D.bl l x b h
theorem putD_num {l : List (Str × Int)} {x : Str} {b : Int} (h : x ∈ l.map (·.1)) : putD (numsD l) x (.int b) = numsD (put l x b) := putD_map D.int l x b h
end
theorem lookupV {α : Type} {fs : List (Str × α)} {k : Str} {d : α} {keys : List Str} (i : Nat) (h : fs.map (·.1) = keys) (hk : keys.findIdx (fun x => k == x) = i) (e : fs[i]? = some (k, d)) : fs.lookup k = some d := by
  subst h
  induction fs generalizing i with
  | nil => simp at e
  | cons p fs ih =>
    obtain ⟨a, b⟩ := p
    rw [List.map_cons, List.findIdx_cons] at hk
    rw [List.lookup_cons]
    cases q : k == a with
    | true =>
      rw [q] at hk
      subst hk
      have e2 : (a, b) = (k, d) := Option.some.inj e
      rw [(Prod.mk.inj e2).2]
    | false =>
      rw [q] at hk
      subst hk
      exact ih _ e rfl
theorem lookupN {α : Type} {fs : List (Str × α)} {k : Str} {keys : List Str} (h : fs.map (·.1) = keys) (n : (keys.contains k) = false) : fs.lookup k = none := by
  subst h
  induction fs with
  | nil => rfl
  | cons p fs ih =>
    obtain ⟨a, b⟩ := p
    rw [List.map_cons, List.contains_cons, Bool.or_eq_false_iff] at n
    rw [List.lookup_cons, n.1]
    exact ih n.2
section
variable {K : PySem.W.Frag} {mg : Str → Option Value} {O : Mask} {H H2 : Hp} {S W : Addr} {A : Ads} {m : Mo} {s : Sta} {σ : L2.St} {i : Nat}
/-- self.f read as it lies -/
theorem st_at (T : Txt K mg S W) (h : St O H S W A m s) (hs : σ[i]? = some (some (.ref A.st))) {f : Str} {v : V} (j : Nat) (hf : sKeys.findIdx (fun x => f == x) = j) (e : ∀ vT vR vO vY, (stF A s vT vR vO vY)[j]? = some (f, v)) (hk : (sKeys.contains f) = true := by decide +kernel) :
    ∀ H', Same H H' → ∀ Q : VK, Q v H' → tFld K (tVar i) f σ H' Q := fun H' sa Q q => by
  obtain ⟨dx, vT, vR, vO, vY, e0, _⟩ := h.ob
  exact ⟨_, hs, A.st, S, dx, _, v, rfl, sa _ _ e0, T.clS, nS_of T hk, lookupV (keys := sKeys) j rfl hf (e vT vR vO vY), q⟩
end

/-! ### the own dict's objects -/
structure Bds where
  ow : Addr
  wh : Addr
  op : Addr
  wo : Addr
  nu : Addr
def Bds.l (B : Bds) : List Addr := [B.ow, B.wh, B.op, B.wo, B.nu]
def owF (B : Bds) (s : Sta) : List (Key × V) := [(.inr "here", .str s.here), (.inr "turn", .int s.turn), (.inr "where", .ref B.wh), (.inr "open", .ref B.op), (.inr "worn", .ref B.wo), (.inr "numbers", .ref B.nu)]
structure Ow (O : Mask) (H : Hp) (B : Bds) (s : Sta) : Prop where
  nd : B.l.Nodup
  inO : ∀ b, b ∈ B.l → O b
  ob : H B.ow = some (.dK (owF B s))
  wh : ∃ ws, H B.wh = some (.dK ws) ∧ DmK O H ws (whsD s.whs)
  op : ∃ ws, H B.op = some (.dK ws) ∧ DmK O H ws (blsD s.ops)
  wo : ∃ ws, H B.wo = some (.dK ws) ∧ DmK O H ws (blsD s.worn)
  nu : ∃ ws, H B.nu = some (.dK ws) ∧ DmK O H ws (numsD s.nums)
theorem Bds.ne {B : Bds} (h : B.l.Nodup) : (B.wh ≠ B.ow ∧ B.op ≠ B.ow ∧ B.wo ≠ B.ow ∧ B.nu ≠ B.ow) ∧ (B.op ≠ B.wh ∧ B.wo ≠ B.wh ∧ B.nu ≠ B.wh) ∧ (B.wo ≠ B.op ∧ B.nu ≠ B.op) ∧ B.nu ≠ B.wo := by
  unfold Bds.l at h
  simp only [List.nodup_cons, List.mem_cons, not_or, List.not_mem_nil, not_false_eq_true, and_true] at h
  obtain ⟨⟨a, b, c, d⟩, ⟨e, f, g⟩, ⟨i, j⟩, k⟩ := h
  exact ⟨⟨Ne.symm a, Ne.symm b, Ne.symm c, Ne.symm d⟩, ⟨Ne.symm e, Ne.symm f, Ne.symm g⟩, ⟨Ne.symm i, Ne.symm j⟩, Ne.symm k.1⟩
section
variable {O X : Mask} {H H2 : Hp} {B : Bds} {s : Sta}
theorem Ow.dm (h : Ow O H B s) : Dm mt H (.ref B.ow) s.d := by
  obtain ⟨w1, e1, k1⟩ := h.wh
  obtain ⟨w2, e2, k2⟩ := h.op
  obtain ⟨w3, e3, k3⟩ := h.wo
  obtain ⟨w4, e4, k4⟩ := h.nu
  exact .dic (fun z => z) (.inl h.ob) (.cons (.str _) (.cons (.int _) (.cons (.dic (fun z => z) (.inl e1) k1.toM) (.cons (.dic (fun z => z) (.inl e2) k2.toM) (.cons (.dic (fun z => z) (.inl e3) k3.toM) (.cons (.dic (fun z => z) (.inl e4) k4.toM) .nil))))))
theorem Ow.fr (h : Ow O H B s) (f : Fr X H H2) (hx : ∀ b, X b → O b) (hd : ∀ b, b ∈ B.l → ¬ X b) : Ow O H2 B s := by
  obtain ⟨w1, e1, k1⟩ := h.wh
  obtain ⟨w2, e2, k2⟩ := h.op
  obtain ⟨w3, e3, k3⟩ := h.wo
  obtain ⟨w4, e4, k4⟩ := h.nu
  exact ⟨h.nd, h.inO, f _ _ (hd _ (by simp [Bds.l])) h.ob, ⟨w1, f _ _ (hd _ (by simp [Bds.l])) e1, k1.fr f hx⟩, ⟨w2, f _ _ (hd _ (by simp [Bds.l])) e2, k2.fr f hx⟩, ⟨w3, f _ _ (hd _ (by simp [Bds.l])) e3, k3.fr f hx⟩, ⟨w4, f _ _ (hd _ (by simp [Bds.l])) e4, k4.fr f hx⟩⟩
theorem Ow.same (h : Ow O H B s) (f : Same H H2) : Ow O H2 B s := h.fr (X := mt) (Fr.of f) (fun _ z => z.elim) (fun _ _ z => z)
theorem Ow.setWh {ws : List (Key × V)} {l : List (Str × Wh)} (h : Ow O H B s) (k : DmK O H ws (whsD l)) : Ow O (upd H B.wh (.dK ws)) B { s with whs := l } := by
  obtain ⟨w2, e2, k2⟩ := h.op
  obtain ⟨w3, e3, k3⟩ := h.wo
  obtain ⟨w4, e4, k4⟩ := h.nu
  have hp := h.inO B.wh (by simp [Bds.l])
  obtain ⟨n1, n2, n3, n4⟩ := Bds.ne h.nd
  exact ⟨h.nd, h.inO, by rw [upd_ne (Ne.symm n1.1)]; exact h.ob, ⟨ws, upd_same, k.updO hp⟩, ⟨w2, by rw [upd_ne n2.1]; exact e2, k2.updO hp⟩, ⟨w3, by rw [upd_ne n2.2.1]; exact e3, k3.updO hp⟩, ⟨w4, by rw [upd_ne n2.2.2]; exact e4, k4.updO hp⟩⟩
theorem Ow.setOp {ws : List (Key × V)} {l : List (Str × Bool)} (h : Ow O H B s) (k : DmK O H ws (blsD l)) : Ow O (upd H B.op (.dK ws)) B { s with ops := l } := by
  obtain ⟨w1, e1, k1⟩ := h.wh
  obtain ⟨w3, e3, k3⟩ := h.wo
  obtain ⟨w4, e4, k4⟩ := h.nu
  have hp := h.inO B.op (by simp [Bds.l])
  obtain ⟨n1, n2, n3, n4⟩ := Bds.ne h.nd
  exact ⟨h.nd, h.inO, by rw [upd_ne (Ne.symm n1.2.1)]; exact h.ob, ⟨w1, by rw [upd_ne (Ne.symm n2.1)]; exact e1, k1.updO hp⟩, ⟨ws, upd_same, k.updO hp⟩, ⟨w3, by rw [upd_ne n3.1]; exact e3, k3.updO hp⟩, ⟨w4, by rw [upd_ne n3.2]; exact e4, k4.updO hp⟩⟩
theorem Ow.setWo {ws : List (Key × V)} {l : List (Str × Bool)} (h : Ow O H B s) (k : DmK O H ws (blsD l)) : Ow O (upd H B.wo (.dK ws)) B { s with worn := l } := by
  obtain ⟨w1, e1, k1⟩ := h.wh
  obtain ⟨w2, e2, k2⟩ := h.op
  obtain ⟨w4, e4, k4⟩ := h.nu
  have hp := h.inO B.wo (by simp [Bds.l])
  obtain ⟨n1, n2, n3, n4⟩ := Bds.ne h.nd
  exact ⟨h.nd, h.inO, by rw [upd_ne (Ne.symm n1.2.2.1)]; exact h.ob, ⟨w1, by rw [upd_ne (Ne.symm n2.2.1)]; exact e1, k1.updO hp⟩, ⟨w2, by rw [upd_ne (Ne.symm n3.1)]; exact e2, k2.updO hp⟩, ⟨ws, upd_same, k.updO hp⟩, ⟨w4, by rw [upd_ne n4]; exact e4, k4.updO hp⟩⟩
theorem Ow.setNu {ws : List (Key × V)} {l : List (Str × Int)} (h : Ow O H B s) (k : DmK O H ws (numsD l)) : Ow O (upd H B.nu (.dK ws)) B { s with nums := l } := by
  obtain ⟨w1, e1, k1⟩ := h.wh
  obtain ⟨w2, e2, k2⟩ := h.op
  obtain ⟨w3, e3, k3⟩ := h.wo
  have hp := h.inO B.nu (by simp [Bds.l])
  obtain ⟨n1, n2, n3, n4⟩ := Bds.ne h.nd
  exact ⟨h.nd, h.inO, by rw [upd_ne (Ne.symm n1.2.2.2)]; exact h.ob, ⟨w1, by rw [upd_ne (Ne.symm n2.2.2)]; exact e1, k1.updO hp⟩, ⟨w2, by rw [upd_ne (Ne.symm n3.2)]; exact e2, k2.updO hp⟩, ⟨w3, by rw [upd_ne (Ne.symm n4)]; exact e3, k3.updO hp⟩, ⟨ws, upd_same, k.updO hp⟩⟩
theorem Ow.setOb {s2 : Sta} (h : Ow O H B s) (h1 : s2.whs = s.whs) (h2 : s2.ops = s.ops) (h3 : s2.worn = s.worn) (h4 : s2.nums = s.nums) : Ow O (upd H B.ow (.dK (owF B s2))) B s2 := by
  obtain ⟨w1, e1, k1⟩ := h.wh
  obtain ⟨w2, e2, k2⟩ := h.op
  obtain ⟨w3, e3, k3⟩ := h.wo
  obtain ⟨w4, e4, k4⟩ := h.nu
  have hp := h.inO B.ow (by simp [Bds.l])
  obtain ⟨n1, n2, n3, n4⟩ := Bds.ne h.nd
  exact ⟨h.nd, h.inO, upd_same, ⟨w1, by rw [upd_ne n1.1]; exact e1, by rw [h1]; exact k1.updO hp⟩, ⟨w2, by rw [upd_ne n1.2.1]; exact e2, by rw [h2]; exact k2.updO hp⟩, ⟨w3, by rw [upd_ne n1.2.2.1]; exact e3, by rw [h3]; exact k3.updO hp⟩, ⟨w4, by rw [upd_ne n1.2.2.2]; exact e4, by rw [h4]; exact k4.updO hp⟩⟩
/-- own[f] read as it lies -/
theorem valVat {kvs : List (Key × V)} {k : Str} {v : V} {keys : List Str} (i : Nat) (h : kvs.map (·.1) = keys.map Sum.inr) (hk : keys.findIdx (fun x => k == x) = i) (e : kvs[i]? = some (.inr k, v)) : valV kvs (.inr k : Key) = some v := by
  induction kvs generalizing i keys with
  | nil => simp at e
  | cons p fs ih =>
    obtain ⟨a, b⟩ := p
    cases keys with
    | nil => cases h
    | cons c keys =>
      rw [List.map_cons, List.map_cons] at h
      obtain ⟨ha, hr⟩ := List.cons.inj h
      have ha : a = Sum.inr c := ha
      subst ha
      rw [List.findIdx_cons] at hk
      cases q : k == c with
      | true =>
        rw [q] at hk
        subst hk
        have e2 : ((Sum.inr c : Key), b) = (Sum.inr k, v) := Option.some.inj e
        obtain ⟨e3, e4⟩ := Prod.mk.inj e2
        rw [← e4]
        exact valV_pos e3
      | false =>
        rw [q] at hk
        subst hk
        rw [valV_neg (by
          intro z
          have z2 : c = k := Sum.inr.inj z
          rw [z2] at q
          simp at q)]
        exact ih _ hr rfl e
theorem ow_at {σ : L2.St} {i : Nat} (h : Ow O H B s) (hs : σ[i]? = some (some (.ref B.ow))) {f : Str} {v : V} (j : Nat) (hf : owKeys.findIdx (fun x => f == x) = j) (e : (owF B s)[j]? = some (.inr f, v)) :
    ∀ H', Same H H' → ∀ Q : VK, Q v H' → tDGet (tVar i) (tC (.str f)) σ H' Q := fun H' sa Q q =>
  ⟨_, hs, B.ow, v, rfl, .inl ⟨_, .inr f, .inl (sa _ _ h.ob), rfl, (valVat (keys := owKeys) j rfl hf e).symm⟩, q⟩
end
end Wt

/-! WtU2: the promises of the state's deeds. -/
namespace Wt
open PySem PySem.Spec PyProof.Rows L2
def inA (A : Ads) : Mask := fun b => b ∈ A.l
def inB (B : Bds) : Mask := fun b => b ∈ B.l
section
variable (S W : Addr)
def SpMove : Sp := fun vs H Q _ => ∃ O A m s x w vw, WF m s ∧ St O H S W A m s ∧ MoveOk m s x w ∧ Dm O H vw w.d ∧ vs = [.ref A.st, .str x, vw] ∧ ∀ H2, Fr (inA A) H H2 → St O H2 S W A m (moveS s x w) → Q .non H2
def SpOpen : Sp := fun vs H Q _ => ∃ O A m s x b, WF m s ∧ St O H S W A m s ∧ x ∈ s.ops.map (·.1) ∧ vs = [.ref A.st, .str x, .bl b] ∧ ∀ H2, Fr (inA A) H H2 → St O H2 S W A m (openS s x b) → Q .non H2
def SpWorn : Sp := fun vs H Q _ => ∃ O A m s x b, WF m s ∧ St O H S W A m s ∧ x ∈ m.names ∧ hasT m x "wear" = true ∧ whF s x = .with_ ∧ vs = [.ref A.st, .str x, .bl b] ∧ ∀ H2, Fr (inA A) H H2 → St O H2 S W A m (wearS s x b) → Q .non H2
def SpNum : Sp := fun vs H Q _ => ∃ O A m s x n, WF m s ∧ St O H S W A m s ∧ x ∈ s.nums.map (·.1) ∧ 0 ≤ n ∧ n ≤ 9 ∧ vs = [.ref A.st, .str x, .int n] ∧ ∀ H2, Fr (inA A) H H2 → St O H2 S W A m (numS s x n) → Q .non H2
def SpGo : Sp := fun vs H Q _ => ∃ O A m s p, WF m s ∧ St O H S W A m s ∧ p ∈ m.pnames ∧ vs = [.ref A.st, .str p] ∧ ∀ H2, Fr (inA A) H H2 → St O H2 S W A m (goS s p) → Q .non H2
def SpTurn : Sp := fun vs H Q _ => ∃ O A m s, WF m s ∧ St O H S W A m s ∧ vs = [.ref A.st] ∧ ∀ H2, Fr (inA A) H H2 → St O H2 S W A m (turnS s) → Q .non H2
end
section
variable {ρ : Env} {σ : L2.St} {H : Hp} {D' : Ends} {te td ty : TE} {v : V}
theorem u_putV {p : Addr} {key : Str} {xs : List (Key × V)} (hv : ∀ Q : VK, Q v H → te σ H Q) (hk : EvD ty ρ (.str key)) (rz : Rz mt ρ σ H) (hd : ∀ H', Same H H' → ∀ Q : VK, Q (.ref p) H' → td σ H' Q) (hp : H p = some (.dK xs)) (hz : xs.length < 100000)
    (k : ∀ H', Same H H' → D'.nx σ (upd H' p (.dK (putK xs (.inr key) v)))) : sDPut td ty te D' σ H :=
  hv _ (hd H (Same.refl H) _ (hk mt σ H dom_mt rz _ fun kv H2 s2 m2 => by
    cases m2
    exact ⟨p, _, rfl, .inl ⟨xs, .inr key, s2 _ _ hp, rfl, sz_lt hz, rfl⟩, k H2 s2⟩))
end
theorem putF_set {fs : List (Str × V)} {f : Str} {v : V} {keys : List Str} (i : Nat) (h : fs.map (·.1) = keys) (hk : keys.findIdx (fun x => decide (x = f)) = i) (hi : i < keys.length) : putF f v fs = fs.set i (f, v) := by
  subst h
  induction fs generalizing i with
  | nil => simp at hi
  | cons p fs ih =>
    obtain ⟨a, b⟩ := p
    rw [List.map_cons, List.findIdx_cons] at hk
    show (if a = f then (a, v) :: fs else (a, b) :: putF f v fs) = _
    by_cases e : a = f
    · have : decide (a = f) = true := decide_eq_true e
      rw [this] at hk
      subst hk
      rw [if_pos e, e]
      rfl
    · have : decide (a = f) = false := decide_eq_false e
      rw [this] at hk
      subst hk
      rw [if_neg e]
      have hl : List.findIdx (fun x => decide (x = f)) (fs.map (·.1)) < (fs.map (·.1)).length := by
        rw [List.map_cons] at hi
        simp only [List.length_cons, cond_false] at hi
        omega
      rw [ih _ rfl hl]
      rfl
theorem whs_len {l : List (Str × Wh)} : (whsD l).length = l.length := List.length_map ..
theorem bls_len {l : List (Str × Bool)} : (blsD l).length = l.length := List.length_map ..
theorem nums_len {l : List (Str × Int)} : (numsD l).length = l.length := List.length_map ..
theorem nums_keys (l : List (Str × Int)) : (numsD l).map (·.1) = l.map (·.1) := by
  unfold numsD
  rw [List.map_map]
  rfl
theorem ops_in {m : Mo} {s : Sta} {x : Str} (wf : WF m s) (h : x ∈ s.ops.map (·.1)) : x ∈ m.names := by
  rw [wf.ok] at h
  obtain ⟨t, ht, e⟩ := List.mem_map.mp h
  exact List.mem_map.mpr ⟨t, (List.mem_filter.mp ht).1, e⟩
end Wt

/-! WtU3: the making of the world, the state, the own dict. -/
namespace Wt
open PySem PySem.Spec PyProof.Rows L2
section
variable {M : Mask} {H H2 : Hp} {p : Addr}
theorem DmF.kpM {O' : Mask} {fs : List (Str × V)} {dfs : List (Str × D)} (h : DmF M H fs dfs) (k : Kp M H H2) (ho : ∀ b, O' b → M b ∨ H b = none) : DmF O' H2 fs dfs := DmF.kp k ho h
theorem DmF.snoc {v : V} {d : D} {f : Str} : ∀ {fs : List (Str × V)} {dfs : List (Str × D)}, DmF M H fs dfs → Dm M H v d → DmF M H (fs ++ [(f, v)]) (dfs ++ [(f, d)])
  | _, _, .nil, m => .cons m .nil
  | _, _, .cons h r, m => .cons h (DmF.snoc r m)
end
theorem putF_new {fs : List (Str × V)} {f : Str} {v : V} {keys : List Str} (h : fs.map (·.1) = keys) (hc : (keys.contains f) = false) : putF f v fs = fs ++ [(f, v)] := by
  subst h
  induction fs with
  | nil => rfl
  | cons p fs ih =>
    obtain ⟨a, b⟩ := p
    rw [List.map_cons, List.contains_cons, Bool.or_eq_false_iff] at hc
    have e : ¬ a = f := fun z => by rw [z] at hc; simp at hc
    show (if a = f then (a, v) :: fs else (a, b) :: putF f v fs) = _
    rw [if_neg e, ih hc.2]
    rfl
inductive RzO (O : Mask) (H : Hp) : Env → L2.St → Prop where
  | nil : RzO O H [] []
  | no {o : Option V} {ρ : Env} {σ : L2.St} (r : RzO O H ρ σ) : RzO O H (none :: ρ) (o :: σ)
  | on {v : V} {d : D} {ρ : Env} {σ : L2.St} (m : Dm O H v d) (r : RzO O H ρ σ) : RzO O H (some d :: ρ) (some v :: σ)
theorem RzO.rz {O : Mask} {H : Hp} : ∀ {ρ : Env} {σ : L2.St}, RzO O H ρ σ → Rz O ρ σ H
  | _, _, .nil => ⟨rfl, fun i d e => by simp at e⟩
  | _, _, .no r => ⟨congrArg (· + 1) r.rz.len, fun i d e => by
    cases i with
    | zero => cases e
    | succ i => exact r.rz.at_ i d e⟩
  | _, _, .on m r => ⟨congrArg (· + 1) r.rz.len, fun i d e => by
    cases i with
    | zero =>
      have e2 : _ = d := Option.some.inj (Option.some.inj e)
      rw [← e2]
      exact ⟨_, rfl, m⟩
    | succ i => exact r.rz.at_ i d e⟩
theorem u_asgM {M : Mask} {H : Hp} {te : TE} {d : D} {ρ : Env} {σ : L2.St} {D' : Ends} {i : Nat} (h : EvD te ρ d) (rz : Rz M ρ σ H) (dm : Dom M H) (k : ∀ v H2, Same H H2 → Dm M H2 v d → Rz M (ρ.set i (some d)) (σ.set i (some v)) H2 → Dom M H2 → D'.nx (σ.set i (some v)) H2) : tAsg te (gName i) D' σ H :=
  h M σ H dm rz _ fun v H2 s2 m2 => k v H2 s2 m2 ((Rz.same rz s2).set m2) (dm.same s2)
section
variable {K : PySem.W.Frag} {M : Mask} {H : Hp} {p C dx : Addr} {fs : List (Str × V)} {dfs : List (Str × D)} {keys : List Str} {f : Str} {te : TE} {d : D} {ρ : Env} {σ : L2.St} {D' : Ends}
/-- self.f = data -/
theorem u_setF (h : EvD te ρ d) (rz : Rz M ρ σ H) (dm : Dom M H) (mp : M p) (hs : σ[0]? = some (some (.ref p))) (hp : H p = some (.ins C dx fs)) (kf : DmF M H fs dfs) (cl : Cls K C) (na : NoAttr K C f) (hk : fs.map (·.1) = keys) (hc : (keys.contains f) = false) (hl : keys.length < 100)
    (k : ∀ v H2, Kp M H H2 → Fr (fun b => b = p) H H2 → H2 p = some (.ins C dx (fs ++ [(f, v)])) → DmF M H2 (fs ++ [(f, v)]) (dfs ++ [(f, d)]) → Dm M H2 v d → Rz M ρ σ H2 → Dom M H2 → D'.nx σ H2) : sFld K (tVar 0) te f D' σ H :=
  h M σ H dm rz _ fun v H1 s1 m1 => by
    refine ⟨_, hs, p, C, dx, fs, rfl, s1 _ _ hp, cl, na, ?_, ?_⟩
    · have := congrArg List.length hk
      rw [List.length_map] at this
      omega
    · rw [putF_new hk hc]
      have kp : Kp M H (upd H1 p (.ins C dx (fs ++ [(f, v)]))) := .of fun b o n e => by
        rw [upd_ne fun z => n (by rw [z]; exact mp)]
        exact s1 _ _ e
      have m2 : Dm M (upd H1 p (.ins C dx (fs ++ [(f, v)]))) v d := m1.updO mp
      refine k v _ kp ((Fr.of s1).trans (Fr.upd rfl)) upd_same (DmF.snoc (kf.kpM kp fun _ z => .inl z) m2) m2 (Rz.updO (Rz.same rz s1) mp) ?_
      intro b hb
      by_cases e : b = p
      · rw [e, upd_same]
        exact fun z => nomatch z
      · rw [upd_ne e]
        exact dm.same s1 b hb
/-- self.f = a new dict -/
theorem u_setM {kvs : List (Str × D)} {fs1 : List (Str × V)} (h : EvM te ρ kvs) (rz : Rz M ρ σ H) (dm : Dom M H) (mp : M p) (hs : σ[0]? = some (some (.ref p))) (hp : H p = some (.ins C dx fs)) (kf : DmF M H fs1 dfs) (cl : Cls K C) (na : NoAttr K C f) (hk : fs.map (·.1) = keys) (hc : (keys.contains f) = false) (hl : keys.length < 100)
    (k : ∀ q xs H2, H q = none → q ≠ p → Kp M H H2 → (∀ b, (M.and q) b → M b ∨ H b = none) → Fr (fun b => b = p) H H2 → H2 p = some (.ins C dx (fs ++ [(f, .ref q)])) → H2 q = some (.dK xs) → DmK (M.and q) H2 xs kvs → DmF (M.and q) H2 fs1 dfs → Rz (M.and q) ρ σ H2 → Dom (M.and q) H2 → D'.nx σ H2) : sFld K (tVar 0) te f D' σ H :=
  h M σ H dm rz _ fun q xs H1 nq s1 eq m1 => by
    refine ⟨_, hs, p, C, dx, fs, rfl, s1 _ _ hp, cl, na, ?_, ?_⟩
    · have := congrArg List.length hk
      rw [List.length_map] at this
      omega
    · rw [putF_new hk hc]
      have nqp : q ≠ p := fun z => by rw [z, hp] at nq; cases nq
      have kp : Kp M H (upd H1 p (.ins C dx (fs ++ [(f, .ref q)]))) := .of fun b o n e => by
        rw [upd_ne fun z => n (by rw [z]; exact mp)]
        exact s1 _ _ e
      have ho : ∀ b, (M.and q) b → M b ∨ H b = none := fun b z => z.elim .inl fun z => .inr (by rw [z]; exact nq)
      refine k q xs _ nq nqp kp ho ((Fr.of s1).trans (Fr.upd rfl)) upd_same (by rw [upd_ne nqp]; exact eq) (m1.updO (.inl mp)) (kf.kpM kp ho) (rz.kp kp ho) ?_
      intro b hb
      by_cases e : b = p
      · rw [e, upd_same]
        exact fun z => nomatch z
      · rw [upd_ne e]
        rcases hb with hb | hb
        · exact dm.same s1 b hb
        · rw [hb, eq]
          exact fun z => nomatch z
theorem Fr.free {X : Mask} {H H2 : Hp} {q : Addr} (f : Fr X H H2) (n : H2 q = none) (h : ¬ X q) : H q = none := by
  cases e : H q with
  | none => rfl
  | some o => rw [f q o h e] at n; cases n
end
def initS (m : Mo) : Sta := ⟨(m.places.head?.map (·.1)).getD Str.empty, 0, m.things.map fun t => (t.name, t.whr), (m.things.filter lidded).map fun t => (t.name, !decide (("shut" : Str) ∈ t.traits)), m.things.map fun t => (t.name, false), m.states⟩
def only (p : Addr) : Mask := fun b => b = p
def SpWInit (W : Addr) : Sp := fun vs H Q _ => ∃ p dx m us, DmL (only p) H us [.lst (m.places.map placeD), .lst (m.things.map Thing.d), .lst (m.ways.map Way.d), .lst (m.states.map strowD), .lst [], .lst [], .lst [], .lst []] ∧ H p = some (.ins W dx []) ∧ vs = .ref p :: us ∧
  ∀ H2, Fr (only p) H H2 → Dm mt H2 (.ref p) (woD W m) → Q .non H2
def SpSInit (S W : Addr) : Sp := fun vs H Q _ => ∃ p dx m vw, WM m ∧ H p = some (.ins S dx []) ∧ Dm (only p) H vw (woD W m) ∧ vs = [.ref p, vw] ∧ ∀ H2 A, A.st = p → (∀ b, b ∈ A.l → b = p ∨ H b = none) → Fr (only p) H H2 → St (inA A) H2 S W A m (initS m) → Q .non H2
def SpOwn : Sp := fun vs H Q _ => ∃ O m vm, WM m ∧ Dom O H ∧ Dm O H vm m.d ∧ vs = [vm] ∧ ∀ H2 B, (∀ b, b ∈ B.l → H b = none) → Same H H2 → Ow (fun b => O b ∨ b ∈ B.l) H2 B (initS m) → Q (.ref B.ow) H2
section
variable {m : Mo}
theorem keysN {α : Type} (f : Thing → α) (l : List Thing) : (l.map fun t => (t.name, f t)).map (·.1) = l.map (·.name) := by
  rw [List.map_map]
  rfl
theorem nd_whs (wm : WM m) : ((whsD (initS m).whs).map (·.1)).Nodup := by
  rw [whs_keys]
  show ((m.things.map fun t => (t.name, t.whr)).map (·.1)).Nodup
  rw [keysN]
  exact wm.tn
theorem nd_ops (wm : WM m) : ((blsD (initS m).ops).map (·.1)).Nodup := by
  rw [bls_keys]
  show (((m.things.filter lidded).map fun t => (t.name, !decide (("shut" : Str) ∈ t.traits))).map (·.1)).Nodup
  rw [keysN]
  exact wm.tn.sublist (List.filter_sublist.map _)
theorem nd_worn (wm : WM m) : ((blsD (initS m).worn).map (·.1)).Nodup := by
  rw [bls_keys]
  show ((m.things.map fun t => (t.name, false)).map (·.1)).Nodup
  rw [keysN]
  exact wm.tn
theorem nd_nums (wm : WM m) : ((numsD (initS m).nums).map (·.1)).Nodup := by
  rw [nums_keys]
  exact wm.sn
theorem nd_rows (wm : WM m) : ((rowsD m.things).map (·.1)).Nodup := by
  rw [rows_keys]
  exact wm.tn
theorem nd_rooms (wm : WM m) : ((blsD m.places).map (·.1)).Nodup := by
  rw [bls_keys]
  exact wm.pn
/-- dict of pairs with keys that differ -/
theorem em_dict {K : PySem.W.Frag} {ρ : Env} {ta : TA} {kvs : List (Str × D)} (hn : (kvs.map (·.1)).Nodup) (h : EvA ta ρ [.lst (kvs.map pairD)]) : EvM (tCB (cDict K) ta) ρ kvs := by
  have q := em_cb h (cm_dict (K := K) (kvs := kvs))
  rw [mergeD_nodup kvs [] hn] at q
  exact q
theorem whs_pairs (l : List Thing) : (l.map fun t => D.tup [.str t.name, t.whr.d]) = (whsD (l.map fun t => (t.name, t.whr))).map pairD := by
  unfold whsD
  rw [List.map_map, List.map_map]
  rfl
theorem bls_pairs (f : Thing → Bool) (l : List Thing) : (l.map fun t => D.tup [.str t.name, .bl (f t)]) = (blsD (l.map fun t => (t.name, f t))).map pairD := by
  unfold blsD
  rw [List.map_map, List.map_map]
  rfl
theorem rows_pairs (l : List Thing) : (l.map fun t => D.tup [.str t.name, t.d]) = (rowsD l).map pairD := by
  unfold rowsD
  rw [List.map_map]
  rfl
theorem rooms_pairs (l : List (Str × Bool)) : l.map placeD = (blsD l).map pairD := by
  unfold blsD
  rw [List.map_map]
  rfl
theorem nums_pairs (l : List (Str × Int)) : l.map strowD = (numsD l).map pairD := by
  unfold numsD
  rw [List.map_map]
  rfl
theorem here0 (wm : WM m) : ∃ p, (m.places.map placeD)[0]? = some (placeD p) ∧ (initS m).here = p.1 ∧ p ∈ m.places := by
  have h := wm.p1
  unfold initS
  cases e : m.places with
  | nil => exact absurd e h
  | cons p r => exact ⟨p, rfl, rfl, by simp⟩
end
theorem valV_none {k : Key} : ∀ {kvs : List (Key × V)}, k ∉ kvs.map (·.1) → valV kvs k = none
  | [], _ => rfl
  | (a, b) :: r, h => by
    rw [List.map_cons, List.mem_cons, not_or] at h
    rw [valV_neg fun z => h.1 z.symm]
    exact valV_none h.2
theorem mergeK_new : ∀ (more kvs : List (Key × V)), ((kvs ++ more).map (·.1)).Nodup → mergeK kvs more = kvs ++ more
  | [], kvs, _ => (List.append_nil _).symm
  | (k, d) :: r, kvs, h => by
    show mergeK (putK kvs k d) r = _
    have hk : k ∉ kvs.map (·.1) := by
      intro m
      rw [List.map_append, List.nodup_append] at h
      exact h.2.2 k m k (by simp) rfl
    rw [putK_new d (valV_none hk), mergeK_new r (kvs ++ [(k, d)]) (by rw [List.append_assoc]; exact h), List.append_assoc]
    rfl
theorem nodup_inr {keys : List Str} (h : keys.Nodup) : (keys.map (Sum.inr : Str → Key)).Nodup := by
  induction keys with
  | nil => exact List.nodup_nil
  | cons a l ih =>
    rw [List.nodup_cons] at h
    rw [List.map_cons, List.nodup_cons]
    refine ⟨fun z => ?_, ih h.2⟩
    obtain ⟨b, hb, e⟩ := List.mem_map.mp z
    rw [Sum.inr.inj e] at hb
    exact h.1 hb
theorem ow_merge (B : Bds) (s : Sta) : mergeK [] (owF B s) = owF B s := by
  have h : ((([] : List (Key × V)) ++ owF B s).map (·.1)).Nodup := nodup_inr (keys := owKeys) (by decide +kernel)
  rw [mergeK_new _ _ h]
  rfl
theorem St.grow {O O' : Mask} {H H2 : Hp} {S W : Addr} {A : Ads} {m : Mo} {s : Sta} (h : St O H S W A m s) (f : Same H H2) (h1 : ∀ b, O' b → O b ∨ H b = none) (h2 : ∀ b, O b → O' b) : St O' H2 S W A m s := by
  obtain ⟨dx, vT, vR, vO, vY, e, m1, m2, m3, m4⟩ := h.ob
  obtain ⟨w1, e1, k1⟩ := h.wh
  obtain ⟨w2, e2, k2⟩ := h.ld
  obtain ⟨w3, e3, k3⟩ := h.dr
  obtain ⟨w4, e4, k4⟩ := h.ct
  have kp : Kp O H H2 := .same f
  exact ⟨h.nd, fun b z => h2 b (h.inO b z), ⟨dx, vT, vR, vO, vY, f _ _ e, Dm.kp kp h1 m1, Dm.kp kp h1 m2, Dm.kp kp h1 m3, Dm.kp kp h1 m4⟩, ⟨w1, f _ _ e1, DmK.kp kp h1 k1⟩, ⟨w2, f _ _ e2, DmK.kp kp h1 k2⟩, ⟨w3, f _ _ e3, DmK.kp kp h1 k3⟩, ⟨w4, f _ _ e4, DmK.kp kp h1 k4⟩⟩
end Wt

/-! WtU4: what a deed leans on. -/
namespace Wt
open PySem PySem.Spec PyProof.Rows L2
def AB (A : Ads) (B : Bds) : Mask := fun b => inA A b ∨ inB B b
def SpMoved (S W : Addr) : Sp := fun vs H Q _ => ∃ A B m s n vm, WF m s ∧ (∀ b, b ∈ A.l → b ∉ B.l) ∧ Dm (AB A B) H vm m.d ∧ St (AB A B) H S W A m s ∧ Ow (AB A B) H B s ∧ vs = [vm, .ref B.ow, .ref A.st, .int n] ∧
  ∀ H2 s', Fr (AB A B) H H2 → WF m s' → St (AB A B) H2 S W A m s' → Ow (AB A B) H2 B s' → Q .non H2
def drawnF (c k : Int) : Int := (c % 1000000007 + 7919 * k + 13) * (c % 1000000007 + 7919 * k + 13) % 1000000007 * 48271 % 2147483647
def F_drawn : List D → D → Prop := fun ds d => ∃ c k, 0 ≤ k ∧ k ≤ 1000000 ∧ ds = [.int c, .int k] ∧ d = .int (drawnF c k)
theorem drawn_nn (c k : Int) : 0 ≤ drawnF c k := Int.emod_nonneg _ (by decide)
section
variable {H : Hp} {S W : Addr} {A : Ads} {B : Bds} {m : Mo} {s : Sta} {O : Mask}
theorem St.noTup (h : St O H S W A m s) : ∀ b xs, b ∈ A.l → H b ≠ some (.tup xs) := fun b xs hb z => by
  obtain ⟨dx, vT, vR, vO, vY, e, _⟩ := h.ob
  obtain ⟨w1, e1, _⟩ := h.wh
  obtain ⟨w2, e2, _⟩ := h.ld
  obtain ⟨w3, e3, _⟩ := h.dr
  obtain ⟨w4, e4, _⟩ := h.ct
  have hb2 : b = A.st ∨ b = A.wh ∨ b = A.ld ∨ b = A.dr ∨ b = A.ct := by simpa [Ads.l] using hb
  rcases hb2 with q | q | q | q | q
  · rw [q, e] at z; cases z
  · rw [q, e1] at z; cases z
  · rw [q, e2] at z; cases z
  · rw [q, e3] at z; cases z
  · rw [q, e4] at z; cases z
theorem Ow.noTup (h : Ow O H B s) : ∀ b xs, b ∈ B.l → H b ≠ some (.tup xs) := fun b xs hb z => by
  obtain ⟨w1, e1, _⟩ := h.wh
  obtain ⟨w2, e2, _⟩ := h.op
  obtain ⟨w3, e3, _⟩ := h.wo
  obtain ⟨w4, e4, _⟩ := h.nu
  have hb2 : b = B.ow ∨ b = B.wh ∨ b = B.op ∨ b = B.wo ∨ b = B.nu := by simpa [Bds.l] using hb
  rcases hb2 with q | q | q | q | q
  · rw [q, h.ob] at z; cases z
  · rw [q, e1] at z; cases z
  · rw [q, e2] at z; cases z
  · rw [q, e3] at z; cases z
  · rw [q, e4] at z; cases z
theorem noTupAB {s' : Sta} (h : St O H S W A m s) (k : Ow O H B s') : ∀ b xs, AB A B b → H b ≠ some (.tup xs) := fun b xs z => z.elim (h.noTup b xs) (k.noTup b xs)
/-- self.m(..), the state in slot 2 -/
theorem st_call {sp : Sp} {E : XK} {name : Str} {ta : TA} {ds : List D} {ρ : Env} {σ : L2.St} {D' : Ends} (h : St O H S W A m s) (hs : σ[2]? = some (some (.ref A.st))) (hn : (sKeys.contains name) = false) (ha : EvA ta ρ ds) (rz : Rz mt ρ σ H)
    (k : ∀ vs H2, Same H H2 → DmL mt H2 vs ds → sp (.ref A.st :: vs) H2 (fun _ H1 => D'.nx σ H1) E) : tDrop (tMeth S name sp [] E (tVar 2) ta) D' σ H := by
  obtain ⟨dx, vT, vR, vO, vY, e, _⟩ := h.ob
  refine ⟨_, hs, A.st, dx, _, rfl, e, lookupN (keys := sKeys) rfl hn, ?_⟩
  refine ha mt σ H dom_mt rz _ fun vs H2 s2 m2 => ?_
  rw [List.append_nil]
  exact k vs H2 s2 m2
end
theorem atI_mod {α : Type} (enc : α → D) (xs : List α) (h : xs ≠ []) (n : Int) {L : Nat} (hL : L = xs.length) : ∃ x, x ∈ xs ∧ atI (xs.map enc) (n % (L : Int)) = some (enc x) := by
  subst hL
  have hp : 0 < xs.length := by
    cases xs with
    | nil => exact absurd rfl h
    | cons a r => simp
  have h0 : 0 ≤ n % (xs.length : Int) := Int.emod_nonneg _ (by omega)
  have h1 : n % (xs.length : Int) < xs.length := Int.emod_lt_of_pos _ (by omega)
  have hj : (n % (xs.length : Int)).toNat < xs.length := by omega
  refine ⟨xs[(n % (xs.length : Int)).toNat], List.getElem_mem _, ?_⟩
  have e : ((n % (xs.length : Int)).toNat : Int) = n % (xs.length : Int) := Int.toNat_of_nonneg h0
  have q : atI (xs.map enc) ((n % (xs.length : Int)).toNat : Int) = some (enc xs[(n % (xs.length : Int)).toNat]) := atI_nat (by rw [List.getElem?_map, List.getElem?_eq_getElem hj]; rfl)
  have q2 : ∀ i : Int, ((n % (xs.length : Int)).toNat : Int) = i → atI (xs.map enc) i = some (enc xs[(n % (xs.length : Int)).toNat]) := fun i hi => by rw [← hi]; exact q
  exact q2 _ e
/-! things' lists are laid -/
theorem thing_pl (t : Thing) : t.d.pl = true := by
  have h1 : D.plL (t.adjs.map D.str) = true := plL_strs _
  have h2 : D.plL (t.traits.map D.str) = true := plL_strs _
  have h3 := t.whr.pl
  simp [Thing.d, D.pl, D.plL, h1, h2, h3]
theorem thing_lay {t : Thing} (h : ThOk t) : PyData.canLay0 t.d.py = true := by
  have h1 := canLay_strs fun x hx => (h.adjs x hx).2.2
  have h2 := canLay_strs h.trok
  have h3 := canLay_wh h.whok
  have h4 := h.name.2.2
  have h5 := h.noun.2.2
  simp [Thing.d, D.py, D.pyL, PyData.canLay0, PyData.canLayAll0, pyL_strs, h1, h2, h3, h4, h5]
theorem thing_depth (t : Thing) : PyData.depth t.d.py ≤ 3 := by
  have h1 := depth_strs t.adjs
  have h2 := depth_strs t.traits
  have h3 := depth_wh t.whr
  simp only [Thing.d, D.py, D.pyL, PyData.depth, PyData.depthAll, pyL_strs, h1, h2, h3]
  omega
theorem plL_things : ∀ l : List Thing, D.plL (l.map Thing.d) = true
  | [] => by simp [D.plL]
  | t :: l => by simp [D.plL, plL_things l, thing_pl]
theorem pyL_things : ∀ l : List Thing, D.pyL (l.map Thing.d) = l.map fun t => t.d.py
  | [] => by simp [D.pyL]
  | t :: l => by simp [D.pyL, pyL_things l]
theorem canLay_things : ∀ {l : List Thing}, (∀ t, t ∈ l → ThOk t) → PyData.canLayAll0 (l.map fun t => t.d.py) = true
  | [], _ => by simp [PyData.canLayAll0]
  | t :: l, h => by
    simp only [List.map_cons, PyData.canLayAll0, Bool.and_eq_true]
    exact ⟨thing_lay (h t (by simp)), canLay_things fun x hx => h x (by simp [hx])⟩
theorem depth_things : ∀ l : List Thing, PyData.depthAll (l.map fun t => t.d.py) ≤ 3
  | [] => by simp [PyData.depthAll]
  | t :: l => by
    have h1 := depth_things l
    have h2 := thing_depth t
    simp only [List.map_cons, PyData.depthAll]
    omega
theorem rd_neNilT {K : PySem.W.Frag} {l : List Thing} (h : ∀ t, t ∈ l → ThOk t) : RD (rNeD K) (.lst (l.map Thing.d)) (.lst []) (.bl (!l.isEmpty)) := by
  refine rd_neD (by unfold D.pl; exact plL_things l) rfl ?_ (shaped_strs (ss := []) (fun _ z => nomatch z)) ?_
  · unfold SeqAt.shaped D.py
    rw [pyL_things]
    have h1 : PyData.canLay0 (.list (l.map fun t => t.d.py)) = true := by
      simp only [PyData.canLay0]
      exact canLay_things h
    have h2 := depth_things l
    rw [h1, Bool.true_and, decide_eq_true_eq]
    simp only [PyData.depth]
    omega
  · cases l <;> simp [D.py, D.pyL, PyData.eqv, PyData.eqvAll]
/-! where a thing may go -/
def hN : Wh → Str
  | .in_ h => h
  | .on_ h => h
  | _ => Str.empty
def freeH (s : Sta) (x : Str) (w : Wh) : Bool := !decide (x ∈ hN w :: (chn s (hN w)).1.map (·.2))
def spots1 (m : Mo) : List Wh := (m.places.map fun p => Wh.at_ p.1) ++ [.with_, .with_, .nowhere]
def spotsF (m : Mo) (s : Sta) (x : Str) : List Wh := spots1 m ++ (List.replicate 3 ((holdersF m).filter (freeH s x))).flatten
section
variable {m : Mo} {s : Sta} {x : Str} {w : Wh}
theorem holder_of (wm : WM m) (h : w ∈ holdersF m) : (∃ b y, w = linkW (b, y) ∧ y ∈ m.names) ∧ WhOk m w := by
  obtain ⟨t, ht, hw⟩ := List.mem_flatMap.mp h
  have hy : t.name ∈ m.names := List.mem_map.mpr ⟨t, ht, rfl⟩
  have tg := thg_of_mem wm.tn ht
  rcases List.mem_append.mp hw with q | q
  · by_cases hb : ("box" : Str) ∈ t.traits
    · rw [if_pos hb] at q
      rw [List.mem_singleton.mp q]
      exact ⟨⟨true, _, rfl, hy⟩, t, tg, hb⟩
    · rw [if_neg hb] at q
      cases q
  · by_cases hb : ("stand" : Str) ∈ t.traits
    · rw [if_pos hb] at q
      rw [List.mem_singleton.mp q]
      exact ⟨⟨false, _, rfl, hy⟩, t, tg, hb⟩
    · rw [if_neg hb] at q
      cases q
theorem hN_link (p : Bool × Str) : hN (linkW p) = p.2 := by
  obtain ⟨b, y⟩ := p
  cases b <;> rfl
theorem spots_ok (wf : WF m s) (hx : x ∈ m.names) (hd : hasT m x "door" = false) (h : w ∈ spotsF m s x) : MoveOk m s x w := by
  unfold spotsF spots1 at h
  rcases List.mem_append.mp h with h | h
  · rcases List.mem_append.mp h with h | h
    · obtain ⟨p, hp, e⟩ := List.mem_map.mp h
      rw [← e]
      exact ⟨hx, hd, List.mem_map.mpr ⟨p, hp, rfl⟩, [], _, .at_ _, by simp⟩
    · have : w = .with_ ∨ w = .nowhere := by
        rcases List.mem_cons.mp h with q | h
        · exact .inl q
        rcases List.mem_cons.mp h with q | h
        · exact .inl q
        · exact .inr (List.mem_singleton.mp h)
      rcases this with q | q
      · rw [q]
        exact ⟨hx, hd, trivial, [], _, .with_, by simp⟩
      · rw [q]
        exact ⟨hx, hd, trivial, [], _, .nowhere, by simp⟩
  · obtain ⟨l, hl, hw⟩ := List.mem_flatten.mp h
    rw [List.eq_of_mem_replicate hl] at hw
    obtain ⟨h1, h2⟩ := List.mem_filter.mp hw
    obtain ⟨⟨b, y, e, hy⟩, ok⟩ := holder_of wf.wm h1
    subst e
    unfold freeH at h2
    rw [hN_link] at h2
    have h3 : x ∉ y :: (chn s y).1.map (·.2) := by
      intro z
      rw [decide_eq_true z] at h2
      cases h2
    obtain ⟨kc, _⟩ := wf.chain hy
    refine ⟨hx, hd, ok, (b, y) :: (chn s y).1, rootF s y, ?_, h3⟩
    cases b
    · exact .on_ (wf.whF hy) kc
    · exact .in_ (wf.whF hy) kc
theorem spots_ne (m : Mo) (s : Sta) (x : Str) : spotsF m s x ≠ [] := by
  intro z
  have : (Wh.with_) ∈ spotsF m s x := List.mem_append_left _ (List.mem_append_right _ (by simp))
  rw [z] at this
  cases this
theorem holders_len (h : m.things.length ≤ 12) : (holdersF m).length ≤ 24 := by
  have q : ∀ l : List Thing, (l.flatMap hT).length ≤ 2 * l.length := fun l => by
    induction l with
    | nil => simp
    | cons y r ih =>
      rw [List.flatMap_cons, List.length_append, List.length_cons]
      have : (hT y).length ≤ 2 := by unfold hT; rw [List.length_append]; split <;> split <;> simp
      omega
  have := q m.things
  show (m.things.flatMap hT).length ≤ _
  omega
end
theorem putK_map {kvs : List (Key × V)} {k : Key} {v : V} (h : k ∈ kvs.map (·.1)) : putK kvs k v = kvs.map fun kv => if kv.1 = k then (kv.1, v) else kv := by
  unfold putK
  rw [if_pos]
  obtain ⟨p, hp, e⟩ := List.mem_map.mp h
  exact List.any_eq_true.mpr ⟨p, hp, decide_eq_true e⟩
theorem ne_inr {a b : Str} (h : ¬ a = b) : ¬ (Sum.inr a : Key) = Sum.inr b := fun z => h (Sum.inr.inj z)
theorem ow_turn (B : Bds) (s : Sta) : putK (owF B s) (.inr "turn") (.int (s.turn + 1)) = owF B (turnS s) := by
  have h1 : ¬ ("here" : Str) = "turn" := by decide +kernel
  have h3 : ¬ ("where" : Str) = "turn" := by decide +kernel
  have h4 : ¬ ("open" : Str) = "turn" := by decide +kernel
  have h5 : ¬ ("worn" : Str) = "turn" := by decide +kernel
  have h6 : ¬ ("numbers" : Str) = "turn" := by decide +kernel
  rw [putK_map (by simp [owF])]
  unfold owF
  simp only [List.map_cons, List.map_nil, if_neg (ne_inr h1), if_pos, if_neg (ne_inr h3), if_neg (ne_inr h4), if_neg (ne_inr h5), if_neg (ne_inr h6)]
  rfl
theorem ow_here (B : Bds) (s : Sta) (p : Str) : putK (owF B s) (.inr "here") (.str p) = owF B (goS s p) := by
  have h1 : ¬ ("turn" : Str) = "here" := by decide +kernel
  have h3 : ¬ ("where" : Str) = "here" := by decide +kernel
  have h4 : ¬ ("open" : Str) = "here" := by decide +kernel
  have h5 : ¬ ("worn" : Str) = "here" := by decide +kernel
  have h6 : ¬ ("numbers" : Str) = "here" := by decide +kernel
  rw [putK_map (by simp [owF])]
  unfold owF
  simp only [List.map_cons, List.map_nil, if_neg (ne_inr h1), if_pos, if_neg (ne_inr h3), if_neg (ne_inr h4), if_neg (ne_inr h5), if_neg (ne_inr h6)]
  rfl
end Wt

/-! WtX: the rows are laid; what law_right leans on. -/
namespace Wt
open PySem PySem.Spec PyProof.Rows L2
theorem joinP_ok {xs : List Str} {w : Str} (h : ∀ x, x ∈ xs → PyData.strOk x = true) (hw : PyData.strOk w = true) : PyData.strOk (joinP xs w) = true := by
  have e0 : PyData.strOk Str.empty = true := by decide +kernel
  have e1 : PyData.strOk ", " = true := by decide +kernel
  have e2 : PyData.strOk " " = true := by decide +kernel
  unfold joinP
  split
  · exact ok_join e0 h
  · refine ok_app (ok_app (ok_app (ok_app (ok_join e1 fun x hx => h x (List.dropLast_subset _ hx)) e2) hw) e2) ?_
    cases q : xs.getLast? with
    | none => exact e0
    | some y => exact h y (List.mem_of_getLast? q)
theorem eqv_strs : ∀ a b : List Str, PyData.eqvAll (a.map PyData.str) (b.map PyData.str) = decide (a = b)
  | [], [] => by simp [PyData.eqvAll]
  | [], y :: b => by simp [PyData.eqvAll]
  | x :: a, [] => by simp [PyData.eqvAll]
  | x :: a, y :: b => by
    simp only [List.map_cons, PyData.eqvAll, eqvS, eqv_strs a b]
    by_cases h1 : x = y <;> by_cases h2 : a = b <;> simp [h1, h2]
theorem eqv_lst (a b : List Str) : PyData.eqv (D.lst (a.map D.str)).py (D.lst (b.map D.str)).py = decide (a = b) := by
  simp only [D.py, pyL_strs, PyData.eqv, eqv_strs]
theorem rd_eqL {K : PySem.W.Frag} {a b : List Str} (ha : ∀ x, x ∈ a → PyData.strOk x = true) (hb : ∀ x, x ∈ b → PyData.strOk x = true) : RD (rEqD K) (.lst (a.map .str)) (.lst (b.map .str)) (.bl (decide (a = b))) :=
  rd_eqD (by unfold D.pl; exact plL_strs a) (by unfold D.pl; exact plL_strs b) (shaped_strs ha) (shaped_strs hb) (eqv_lst a b)
section
variable {m : Mo} {s : Sta}
theorem held_le (l : List Str) (seen : List Str) : (l.flatMap fun h => heldLineP m s h seen).length ≤ l.length := by
  induction l with
  | nil => simp
  | cons y r ih =>
    rw [List.flatMap_cons, List.length_append, List.length_cons]
    have : (heldLineP m s y seen).length ≤ 1 := by unfold heldLineP; split <;> simp
    omega
theorem look_len (wf : WF m s) : (lookP m s).length ≤ 15 := by
  unfold lookP
  split
  · rw [List.length_append, List.length_append, List.length_append]
    have h1 : (waysLineP m s).length ≤ 1 := by unfold waysLineP; split <;> simp
    have h2 : (if lyingP m s = [] then [] else [("Here: " : Str) ++ joinP ((lyingP m s).map (aF m)) "and" ++ "."]).length ≤ 1 := by split <;> simp
    have h3 := held_le (m := m) (s := s) (seenF m s) (seenF m s)
    have h4 := seen_len (s := s) wf.wm
    show 1 + _ + _ + _ ≤ _
    omega
  · decide
theorem hold_len : (holdP m s).length ≤ 2 := by
  have key : ∀ (A B : List Str), A.length ≤ 1 → B.length ≤ 1 → (if A ++ B = [] then (["You have nothing."] : List Str) else A ++ B).length ≤ 2 := fun A B hA hB => by
    split
    · decide
    · rw [List.length_append]
      omega
  have this : ∀ (l : List Str) (t : Str), (if l = [] then [] else [t]).length ≤ 1 := fun l t => by split <;> simp
  exact key _ _ (this _ _) (this _ _)
theorem a_oks (wm : WM m) {l : List Str} (h : ∀ x, x ∈ l → x ∈ m.names) : ∀ x, x ∈ l.map (aF m) → PyData.strOk x = true := fun x hx => by
  obtain ⟨y, hy, e⟩ := List.mem_map.mp hx
  rw [← e]
  exact a_ok wm (h y hy)
theorem look_ok (wf : WF m s) : ∀ x, x ∈ lookP m s → PyData.strOk x = true := by
  have wm := wf.wm
  have o1 : PyData.strOk "." = true := by decide +kernel
  have o2 : PyData.strOk "Ways: " = true := by decide +kernel
  have o3 : PyData.strOk "Here: " = true := by decide +kernel
  have o4 : PyData.strOk "and" = true := by decide +kernel
  have o5 : PyData.strOk ", " = true := by decide +kernel
  have o6 : PyData.strOk ": " = true := by decide +kernel
  have o7 : PyData.strOk "the " = true := by decide +kernel
  have o8 : PyData.strOk "It is dark." = true := by decide +kernel
  intro x hx
  unfold lookP at hx
  split at hx
  · rcases List.mem_append.mp hx with hx | hx
    · rcases List.mem_append.mp hx with hx | hx
      · rcases List.mem_append.mp hx with hx | hx
        · rw [List.mem_singleton.mp hx]
          exact ok_app (wm.pnameOk wf.hk).2.2 o1
        · unfold waysLineP at hx
          split at hx
          · cases hx
          · rw [List.mem_singleton.mp hx]
            exact ok_app (ok_app o2 (ok_join o5 fun y hy => ways_ok wm y ((srt_perm _).mem_iff.mp hy))) o1
      · split at hx
        · cases hx
        · rw [List.mem_singleton.mp hx]
          exact ok_app (ok_app o3 (joinP_ok (a_oks wm fun y hy => lying_sub hy) o4)) o1
    · obtain ⟨h, hh, hx⟩ := List.mem_flatMap.mp hx
      unfold heldLineP at hx
      split at hx
      · cases hx
      · rename_i y r e
        rw [List.mem_singleton.mp hx]
        have hs : ∀ z, z ∈ y :: r → z ∈ m.names := fun z hz => by
          rw [← e] at hz
          exact seen_sub (List.mem_filter.mp hz).1
        refine ok_app (ok_app (ok_app (ok_app ?_ ?_) o6) (joinP_ok (a_oks wm hs) o4)) o1
        · split <;> decide +kernel
        · exact ok_app o7 (words_ok wm (seen_sub hh))
  · rw [List.mem_singleton.mp hx]
    exact o8
theorem dark_iff (wf : WF m s) : lookP m s = (["It is dark."] : List Str) ↔ litF m s s.here = false := by
  constructor
  · intro h
    cases q : litF m s s.here with
    | false => rfl
    | true =>
      unfold lookP at h
      rw [if_pos q] at h
      have h2 : s.here ++ "." = "It is dark." := by
        have := congrArg List.head? h
        simpa using this
      have h3 := congrArg Str.length h2
      rw [len_app] at h3
      have e1 : ("." : Str).length = 1 := by decide +kernel
      have e2 : ("It is dark." : Str).length = 11 := by decide +kernel
      have := (wf.wm.pnameOk wf.hk).2.1
      omega
  · intro h
    unfold lookP
    rw [h]
    rfl
end
theorem dp_strs (n : Nat) : ∀ l : List Str, D.dpL (n + 1) (l.map D.str) = true
  | [] => by unfold D.dpL; rfl
  | x :: l => by
    rw [List.map_cons]
    unfold D.dpL
    rw [dp_strs n l]
    rfl
theorem dp_lst {n : Nat} {l : List Str} (h : l.length < 10000) : D.dp (n + 2) (.lst (l.map .str)) = true := by
  unfold D.dp
  rw [dp_strs, List.length_map, decide_eq_true h]
  rfl
def F_right (S W : Addr) : List D → D → Prop := fun ds d => ∃ m s, WF m s ∧ ds = [m.d, s.d, woD W m, stD S W m s] ∧ d = .bl true
section
variable {K : PySem.W.Frag} {O : Mask} {H0 H : Hp} {ρ : Env} {σ : L2.St} {D' : Ends} {t1 t2 : TE} {ds1 ds2 : List D} {tt : TT} {j : Nat}
/-- found = [a new list, a new list]; a test that passes; found[0].append(..); found[1].clear() -/
theorem s_found {t3 : TS} (hd : Dom O H0) (h1 : EvN t1 ρ ds1) (h2 : EvN t2 ρ ds2) (hl : ds1.length < 10000) (hj : j < ρ.length) (ht : EvT tt (ρ.set j (some (.lst [.lst ds1, .lst ds2]))) false)
    (k : ∀ σ H, At O H0 (ρ.set j none) none σ H → D'.nx σ H) (a : At O H0 ρ none σ H) :
    tSeq (tAsg (tLst (tCons t1 (tCons t2 tNil))) (gName j)) (tSeq (tIfS tt t3 tNext) (tSeq (tDrop (tBM K "list" rAppend (tOp (rIxL K) (tVar j) (tC (.int 0))) (tCons (tC (.str "more")) tNil))) (tDrop (tBM0 K "list" rClear (tOp (rIxL K) (tVar j) (tC (.int 1))))))) D' σ H := by
  obtain ⟨sb, rz⟩ := a
  have dm := hd.same sb
  refine h1 O σ H dm rz _ fun p1 xs1 H1 n1 s1 e1 m1 => ?_
  refine h2 (O.and p1) σ H1 ((dm.same s1).and e1) (Rz.same (Rz.fresh rz n1) s1) _ fun p2 xs2 H2 n2 s2 e2 m2 => ?_
  refine ⟨by show 2 ≤ sizeLine; rw [sizeLine_eq]; decide, fun p0 n0 => ?_⟩
  have hσ : σ.length = ρ.length := rz.len
  have e1' := s2 _ _ e1
  have ne1 : p1 ≠ p0 := fun z => by rw [z, n0] at e1'; cases e1'
  have ne2 : p2 ≠ p0 := fun z => by rw [z, n0] at e2; cases e2
  have ne12 : p2 ≠ p1 := fun z => by rw [z, e1] at n2; cases n2
  have sN := Same.new (o := HO.lst [V.ref p1, V.ref p2]) n0
  have f1 := n1
  have f2 := s1.free n2
  have f0 := s1.free (s2.free n0)
  have s3 := (s1.trans s2).trans sN
  have dm3 := dm.same s3
  have mm : Dm O (upd H2 p0 (.lst [V.ref p1, V.ref p2])) (.ref p0) (.lst [.lst ds1, .lst ds2]) :=
    .lst ((dm.same (s1.trans s2)).not n0) upd_same (.cons (.lst (dm.not f1) (sN _ _ e1') (((m1.same s2).same sN).sub Mask.and_l)) (.cons (.lst (dm.not f2) (sN _ _ e2) ((m2.same sN).sub fun b z => .inl (.inl z))) .nil))
  have rz3 := (Rz.same rz s3).set (i := j) mm
  refine ht O _ _ dm3 rz3 _ fun H4 s4 => ?_
  have ej : (σ.set j (some (.ref p0)))[j]? = some (some (.ref p0)) := List.getElem?_set_self (by rw [hσ]; exact hj)
  have e0 := s4 _ _ (upd_same (H := H2) (a := p0) (o := HO.lst [V.ref p1, V.ref p2]))
  have e14 := s4 _ _ (sN _ _ e1')
  have e24 := s4 _ _ (sN _ _ e2)
  refine ⟨_, ej, p0, _, 0, .ref p1, rfl, rfl, SqL.of e0, atI_nat (j := 0) rfl, .inl ⟨rfl, xs1, SqL.of e14⟩, p1, xs1, .str "more", rfl, rfl, e14, sz_lt (by rw [m1.length]; omega), ?_⟩
  refine ⟨_, ej, p0, _, 1, .ref p2, rfl, rfl, SqL.of (by rw [upd_ne ne1.symm]; exact e0), atI_nat (j := 1) rfl, .inl ⟨rfl, xs2, SqL.of (by rw [upd_ne ne12]; exact e24)⟩, p2, xs2, rfl, rfl, by rw [upd_ne ne12]; exact e24, ?_⟩
  have s6 : Same H (upd (upd H4 p1 (.lst (xs1 ++ [.str "more"]))) p2 (.lst [])) := fun b o e => by
    rw [upd_ne (ne_of_none e f2), upd_ne (ne_of_none e f1)]
    exact s4 _ _ (s3 _ _ e)
  exact k _ _ ⟨sb.trans s6, (Rz.same rz s6).setN⟩
end
end Wt

/-! WtY: words; what holds of a model while it's built. -/
namespace Wt
open PySem PySem.Spec PyProof.Rows L2
def letS : Str := "abcdefghijklmnopqrstuvwxyz"
def zqS : Str := "zqx"
def sg (c : Nat) : Str := ⟨#[c]⟩
def letC (i : Int) : Nat := (letS.cps.toList[i.toNat]?).getD 0
def zqC (i : Int) : Nat := (zqS.cps.toList[i.toNat]?).getD 0
def tailL (sd : Int) : List Str := (List.range (drawnF sd 700 % 7).toNat).map fun (j : Nat) => sg (letC ((drawnF sd 700 / 7 + 11 * (j : Int)) % 26))
def wordF (sd k : Int) : Str := sg (letC ((sd + 5 * k) % 26)) ++ sg (zqC (k / 26)) ++ Txt.join Str.empty (tailL sd)
theorem let_len : letS.cps.toList.length = 26 := by decide +kernel
theorem zq_len : zqS.cps.toList.length = 3 := by decide +kernel
theorem let_inj : ∀ i j : Nat, i < 26 → j < 26 → letS.cps.toList[i]? = letS.cps.toList[j]? → i = j := by
  have q : (List.range 26).all (fun i => (List.range 26).all fun j => !decide (letS.cps.toList[i]? = letS.cps.toList[j]?) || decide (i = j)) = true := by decide +kernel
  intro i j hi hj e
  have q1 := List.all_eq_true.mp (List.all_eq_true.mp q i (List.mem_range.mpr hi)) j (List.mem_range.mpr hj)
  rw [decide_eq_true e] at q1
  simpa using q1
theorem zq_inj : ∀ i j : Nat, i < 3 → j < 3 → zqS.cps.toList[i]? = zqS.cps.toList[j]? → i = j := by
  have q : (List.range 3).all (fun i => (List.range 3).all fun j => !decide (zqS.cps.toList[i]? = zqS.cps.toList[j]?) || decide (i = j)) = true := by decide +kernel
  intro i j hi hj e
  have q1 := List.all_eq_true.mp (List.all_eq_true.mp q i (List.mem_range.mpr hi)) j (List.mem_range.mpr hj)
  rw [decide_eq_true e] at q1
  simpa using q1
theorem let_ok : ∀ c, c ∈ letS.cps.toList → PyData.strOk (sg c) = true := by
  have q : letS.cps.toList.all (fun c => PyData.strOk (sg c)) = true := by decide +kernel
  exact fun c hc => List.all_eq_true.mp q c hc
theorem zq_ok : ∀ c, c ∈ zqS.cps.toList → PyData.strOk (sg c) = true := by
  have q : zqS.cps.toList.all (fun c => PyData.strOk (sg c)) = true := by decide +kernel
  exact fun c hc => List.all_eq_true.mp q c hc
theorem let_at {i : Int} (h0 : 0 ≤ i) (h1 : i < 26) : letS.cps.toList[i.toNat]? = some (letC i) ∧ letC i ∈ letS.cps.toList := by
  have hi : i.toNat < letS.cps.toList.length := by rw [let_len]; omega
  have e := List.getElem?_eq_getElem hi
  unfold letC
  rw [e]
  exact ⟨rfl, List.getElem_mem _⟩
theorem zq_at {i : Int} (h0 : 0 ≤ i) (h1 : i < 3) : zqS.cps.toList[i.toNat]? = some (zqC i) ∧ zqC i ∈ zqS.cps.toList := by
  have hi : i.toNat < zqS.cps.toList.length := by rw [zq_len]; omega
  have e := List.getElem?_eq_getElem hi
  unfold zqC
  rw [e]
  exact ⟨rfl, List.getElem_mem _⟩
theorem atI_toNat {α : Type} {xs : List α} {i : Int} {a : α} (h0 : 0 ≤ i) (h : xs[i.toNat]? = some a) : atI xs i = some a := by
  have e : ((i.toNat : Nat) : Int) = i := Int.toNat_of_nonneg h0
  have q : atI xs (i.toNat : Int) = some a := atI_nat h
  have q2 : ∀ j : Int, ((i.toNat : Nat) : Int) = j → atI xs j = some a := fun j hj => by rw [← hj]; exact q
  exact q2 i e
theorem sg_len (c : Nat) : (sg c).length = 1 := rfl
theorem tail_len (sd : Int) : (Txt.join Str.empty (tailL sd)).length ≤ 6 := by
  rw [len_join]
  have e0 : Str.empty.length = 0 := rfl
  have h1 := sum_le 1 (tailL sd) (fun x hx => by
    obtain ⟨j, _, e⟩ := List.mem_map.mp hx
    rw [← e]
    exact Nat.le_refl _)
  have h2 : (tailL sd).length ≤ 6 := by
    unfold tailL
    rw [List.length_map, List.length_range]
    have := Int.emod_lt_of_pos (drawnF sd 700) (show (0 : Int) < 7 by decide)
    omega
  rw [e0]
  omega
theorem tail_ok (sd : Int) : PyData.strOk (Txt.join Str.empty (tailL sd)) = true := ok_join (by decide +kernel) fun x hx => by
  obtain ⟨j, _, e⟩ := List.mem_map.mp hx
  rw [← e]
  exact let_ok _ (let_at (Int.emod_nonneg _ (by decide)) (Int.emod_lt_of_pos _ (by decide))).2
theorem word_ok {sd k : Int} (h0 : 0 ≤ k) (h1 : k < 78) : WordOk (wordF sd k) := by
  have l1 := let_at (Int.emod_nonneg (sd + 5 * k) (show (26 : Int) ≠ 0 by decide)) (Int.emod_lt_of_pos (sd + 5 * k) (show (0 : Int) < 26 by decide))
  have l2 := zq_at (i := k / 26) (by omega) (by omega)
  have h := tail_len sd
  refine ⟨?_, ?_, ok_app (ok_app (let_ok _ l1.2) (zq_ok _ l2.2)) (tail_ok sd)⟩
  · unfold wordF
    rw [len_app, len_app, sg_len]
    omega
  · unfold wordF
    rw [len_app, len_app, sg_len, sg_len]
    omega
theorem app_cps (a b : Str) : (a ++ b).cps.toList = a.cps.toList ++ b.cps.toList := by
  have : (a ++ b).cps = a.cps ++ b.cps := rfl
  rw [this, Array.toList_append]
theorem word_cps (sd k : Int) : (wordF sd k).cps.toList = letC ((sd + 5 * k) % 26) :: zqC (k / 26) :: (Txt.join Str.empty (tailL sd)).cps.toList := by
  unfold wordF
  rw [app_cps, app_cps]
  rfl
theorem word_inj {sd k j : Int} (hk0 : 0 ≤ k) (hk1 : k < 78) (hj0 : 0 ≤ j) (hj1 : j < 78) (e : wordF sd k = wordF sd j) : k = j := by
  have q := congrArg (fun s : Str => s.cps.toList) e
  simp only [word_cps] at q
  obtain ⟨q1, q2⟩ := List.cons.inj q
  obtain ⟨q3, _⟩ := List.cons.inj q2
  have a1 := let_at (Int.emod_nonneg (sd + 5 * k) (show (26 : Int) ≠ 0 by decide)) (Int.emod_lt_of_pos (sd + 5 * k) (show (0 : Int) < 26 by decide))
  have a2 := let_at (Int.emod_nonneg (sd + 5 * j) (show (26 : Int) ≠ 0 by decide)) (Int.emod_lt_of_pos (sd + 5 * j) (show (0 : Int) < 26 by decide))
  have b1 := zq_at (i := k / 26) (by omega) (by omega)
  have b2 := zq_at (i := j / 26) (by omega) (by omega)
  have i1 := let_inj ((sd + 5 * k) % 26).toNat ((sd + 5 * j) % 26).toNat (by omega) (by omega) (a1.1.trans (by rw [q1]; exact a2.1.symm))
  have i2 := zq_inj (k / 26).toNat (j / 26).toNat (by omega) (by omega) (b1.1.trans (by rw [q3]; exact b2.1.symm))
  omega
theorem word_ne {sd k : Int} (h0 : 0 ≤ k) (h1 : k < 78) : ¬ wordF sd k = Str.empty := fun z => by
  have := (word_ok (sd := sd) h0 h1).1
  rw [z] at this
  exact absurd this (by decide)

/-! ### the model under way -/
def WhI (m : Mo) (us : List Thing) : Wh → Prop
  | .at_ p => p ∈ m.pnames
  | .in_ h => ∃ u, u ∈ us ∧ u.name = h ∧ ("box" : Str) ∈ u.traits
  | .on_ h => ∃ u, u ∈ us ∧ u.name = h ∧ ("stand" : Str) ∈ u.traits
  | .with_ => True
  | .nowhere => True
structure MI (m : Mo) : Prop where
  sd : 0 ≤ m.seed
  pl : m.places.length = (1 + m.seed % 8).toNat
  pw : ∀ (i : Nat) (p : Str × Bool), m.places[i]? = some p → p.1 = wordF m.seed (i : Int)
  tl : m.things.length ≤ 12
  tw : ∀ (i : Nat) (t : Thing), m.things[i]? = some t → t.name = wordF m.seed (8 + (i : Int))
  tok : ∀ t, t ∈ m.things → ThOk t
  twh : ∀ (i : Nat) (t : Thing), m.things[i]? = some t → WhI m (m.things.take i) t.whr
  td : ∀ t, t ∈ m.things → ("door" : Str) ∈ t.traits → t.whr = .nowhere
  yl : m.ways.length ≤ 13
  ysrc : ∀ y, y ∈ m.ways → y.src ∈ m.pnames
  ydst : ∀ y, y ∈ m.ways → y.dst ∈ m.pnames
  ydir : ∀ y, y ∈ m.ways → y.dir ∈ dirs
  ydoor : ∀ y, y ∈ m.ways → y.door = "" ∨ ∃ t, t ∈ m.things ∧ t.name = y.door ∧ ("door" : Str) ∈ t.traits
  yu : (m.ways.map fun y => (y.src, y.dir)).Nodup
theorem nodup_of {α : Type} {l : List α} (h : ∀ (i j : Nat) (a : α), l[i]? = some a → l[j]? = some a → i = j) : l.Nodup := by
  induction l with
  | nil => exact List.nodup_nil
  | cons x r ih =>
    rw [List.nodup_cons]
    refine ⟨fun z => ?_, ih fun i j a hi hj => ?_⟩
    · obtain ⟨i, hi, e⟩ := List.mem_iff_getElem.mp z
      have := h 0 (i + 1) x rfl (by rw [List.getElem?_cons_succ, List.getElem?_eq_getElem hi, e])
      omega
    · have := h (i + 1) (j + 1) a (by rw [List.getElem?_cons_succ]; exact hi) (by rw [List.getElem?_cons_succ]; exact hj)
      omega
section
variable {m : Mo}
theorem MI.pl8 (h : MI m) : m.places.length ≤ 8 ∧ 1 ≤ m.places.length := by
  have h1 := h.pl
  have h2 := Int.emod_lt_of_pos m.seed (show (0 : Int) < 8 by decide)
  have h3 := Int.emod_nonneg m.seed (show (8 : Int) ≠ 0 by decide)
  omega
theorem MI.tn (h : MI m) : m.names.Nodup := by
  refine nodup_of fun i j a hi hj => ?_
  rw [List.getElem?_map] at hi hj
  obtain ⟨t, ht, e1⟩ := Option.map_eq_some_iff.mp hi
  obtain ⟨u, hu, e2⟩ := Option.map_eq_some_iff.mp hj
  have q1 := h.tw i t ht
  have q2 := h.tw j u hu
  rw [e1] at q1
  rw [e2] at q2
  have l1 := (List.getElem?_eq_some_iff.mp ht).1
  have l2 := (List.getElem?_eq_some_iff.mp hu).1
  have := h.tl
  have := word_inj (by omega) (by omega) (by omega) (by omega) (q1.symm.trans q2)
  omega
theorem MI.pn (h : MI m) : m.pnames.Nodup := by
  have h8 := h.pl8.1
  refine nodup_of fun i j a hi hj => ?_
  rw [List.getElem?_map] at hi hj
  obtain ⟨t, ht, e1⟩ := Option.map_eq_some_iff.mp hi
  obtain ⟨u, hu, e2⟩ := Option.map_eq_some_iff.mp hj
  have q1 := h.pw i t ht
  have q2 := h.pw j u hu
  rw [e1] at q1
  rw [e2] at q2
  have l1 := (List.getElem?_eq_some_iff.mp ht).1
  have l2 := (List.getElem?_eq_some_iff.mp hu).1
  have := word_inj (by omega) (by omega) (by omega) (by omega) (q1.symm.trans q2)
  omega
theorem MI.p1 (h : MI m) : m.places ≠ [] := fun z => by
  have := h.pl8.2
  rw [z] at this
  exact absurd this (by decide)
theorem MI.pok (h : MI m) : ∀ p, p ∈ m.places → WordOk p.1 := fun p hp => by
  obtain ⟨i, hi, e⟩ := List.mem_iff_getElem.mp hp
  have q := h.pw i p (by rw [List.getElem?_eq_getElem hi, e])
  have := h.pl8.1
  rw [q]
  exact word_ok (by omega) (by omega)
/-- the states -/
structure SI (m : Mo) : Prop where
  sl : m.states.length ≤ 6
  sw : ∀ (i : Nat) (p : Str × Int), m.states[i]? = some p → p.1 = wordF m.seed (20 + (i : Int))
theorem MI.wm (h : MI m) (k : SI m) : WM m where
  tn := h.tn
  pn := h.pn
  sn := by
    refine nodup_of fun i j a hi hj => ?_
    rw [List.getElem?_map] at hi hj
    obtain ⟨t, ht, e1⟩ := Option.map_eq_some_iff.mp hi
    obtain ⟨u, hu, e2⟩ := Option.map_eq_some_iff.mp hj
    have q1 := k.sw i t ht
    have q2 := k.sw j u hu
    rw [e1] at q1
    rw [e2] at q2
    have l1 := (List.getElem?_eq_some_iff.mp ht).1
    have l2 := (List.getElem?_eq_some_iff.mp hu).1
    have := k.sl
    have := word_inj (by omega) (by omega) (by omega) (by omega) (q1.symm.trans q2)
    omega
  tl := h.tl
  pl := h.pl8.1
  p1 := h.p1
  yl := Nat.le_trans h.yl (by decide)
  sl := k.sl
  tok := h.tok
  pok := h.pok
  ysrc := h.ysrc
  ydst := h.ydst
  ydir := h.ydir
  ydoor := h.ydoor
  yu := h.yu
theorem look_init {α : Type} (f : Thing → α) {l : List Thing} (hn : (l.map (·.name)).Nodup) {x : Str} {v : α} (h : look (l.map fun t => (t.name, f t)) x = some v) : ∃ t, t ∈ l ∧ t.name = x ∧ f t = v := by
  obtain ⟨t, ht, e⟩ := List.mem_map.mp (look_mem h)
  exact ⟨t, ht, (Prod.mk.inj e).1, (Prod.mk.inj e).2⟩
theorem init_chain (wm : WM m) (h : MI m) : ∀ (i : Nat) (t : Thing), m.things[i]? = some t → ∃ c r, Chain (initS m).whs t.whr c r := by
  intro i
  induction i using Nat.strongRecOn with
  | _ i ih =>
    intro t ht
    have q := h.twh i t ht
    have lk : ∀ u, u ∈ m.things → look (initS m).whs u.name = some u.whr := fun u hu =>
      look_of_mem (by show ((m.things.map fun t => (t.name, t.whr)).map (·.1)).Nodup; rw [keysN]; exact wm.tn) (List.mem_map.mpr ⟨u, hu, rfl⟩)
    have sub : ∀ u, u ∈ m.things.take i → ∃ j, j < i ∧ m.things[j]? = some u := fun u hu => by
      obtain ⟨j, hj, e⟩ := List.mem_iff_getElem.mp hu
      have hj2 : j < i := by rw [List.length_take] at hj; omega
      refine ⟨j, hj2, ?_⟩
      have q2 := List.getElem?_eq_getElem hj
      rw [List.getElem?_take_of_lt hj2, e] at q2
      exact q2
    cases e : t.whr with
    | at_ p => exact ⟨_, _, .at_ p⟩
    | with_ => exact ⟨_, _, .with_⟩
    | nowhere => exact ⟨_, _, .nowhere⟩
    | in_ y =>
      rw [e] at q
      obtain ⟨u, hu, e2, _⟩ := q
      obtain ⟨j, hj, hu2⟩ := sub u hu
      obtain ⟨c, r, k⟩ := ih j hj u hu2
      exact ⟨_, _, .in_ (by rw [← e2]; exact lk u (List.mem_of_getElem? hu2)) k⟩
    | on_ y =>
      rw [e] at q
      obtain ⟨u, hu, e2, _⟩ := q
      obtain ⟨j, hj, hu2⟩ := sub u hu
      obtain ⟨c, r, k⟩ := ih j hj u hu2
      exact ⟨_, _, .on_ (by rw [← e2]; exact lk u (List.mem_of_getElem? hu2)) k⟩
theorem init_wf (wm : WM m) (h : MI m) : WF m (initS m) where
  wm := wm
  wk := keysN ..
  ok := keysN ..
  wok := keysN ..
  nk := rfl
  hk := by
    obtain ⟨p, _, e, hp⟩ := here0 wm
    rw [e]
    exact List.mem_map.mpr ⟨p, hp, rfl⟩
  wv := fun x w e => by
    obtain ⟨t, ht, e1, e2⟩ := look_init Thing.whr wm.tn e
    obtain ⟨i, hi, e3⟩ := List.mem_iff_getElem.mp ht
    have q := h.twh i t (by rw [List.getElem?_eq_getElem hi, e3])
    rw [← e2]
    cases e : t.whr with
    | at_ p => rw [e] at q; exact q
    | with_ => trivial
    | nowhere => trivial
    | in_ y =>
      rw [e] at q
      obtain ⟨u, hu, e4, hb⟩ := q
      exact ⟨u, by rw [← e4]; exact thg_of_mem wm.tn (List.mem_of_mem_take hu), hb⟩
    | on_ y =>
      rw [e] at q
      obtain ⟨u, hu, e4, hb⟩ := q
      exact ⟨u, by rw [← e4]; exact thg_of_mem wm.tn (List.mem_of_mem_take hu), hb⟩
  dw := fun x t ht hd => by
    have e : look (initS m).whs x = some t.whr := look_of_mem (by show ((m.things.map fun t => (t.name, t.whr)).map (·.1)).Nodup; rw [keysN]; exact wm.tn) (List.mem_map.mpr ⟨t, thg_mem ht, by rw [thg_name ht]⟩)
    rw [e, h.td t (thg_mem ht) hd]
  ch := fun x w e => by
    obtain ⟨t, ht, e1, e2⟩ := look_init Thing.whr wm.tn e
    obtain ⟨i, hi, e3⟩ := List.mem_iff_getElem.mp ht
    obtain ⟨c, r, k⟩ := init_chain wm h i t (by rw [List.getElem?_eq_getElem hi, e3])
    rw [← e2]
    refine ⟨c, r, k, ?_⟩
    have q := k.short
    have q2 : (initS m).whs.length = m.things.length := List.length_map ..
    have := wm.tl
    omega
/-- a thing more -/
theorem MI.addT (h : MI m) {t : Thing} (hl : m.things.length < 12) (hn : t.name = wordF m.seed (8 + (m.things.length : Int))) (hk : ThOk t) (hw : WhI m m.things t.whr) (hd : ("door" : Str) ∈ t.traits → t.whr = .nowhere) : MI { m with things := m.things ++ [t] } where
  sd := h.sd
  pl := h.pl
  pw := h.pw
  tl := by
    show (m.things ++ [t]).length ≤ 12
    rw [List.length_append]
    exact hl
  tw := fun i u hu => by
    have hu : (m.things ++ [t])[i]? = some u := hu
    rcases Nat.lt_or_ge i m.things.length with z | z
    · rw [List.getElem?_append_left z] at hu
      exact h.tw i u hu
    · rw [List.getElem?_append_right z] at hu
      have : i - m.things.length = 0 := by
        rcases Nat.eq_zero_or_pos (i - m.things.length) with q | q
        · exact q
        · rw [List.getElem?_eq_none (by rw [List.length_singleton]; exact q)] at hu
          cases hu
      rw [this] at hu
      cases hu
      have e : i = m.things.length := by omega
      rw [e]
      exact hn
  tok := fun u hu => by
    rcases List.mem_append.mp hu with q | q
    · exact h.tok u q
    · rw [List.mem_singleton.mp q]
      exact hk
  twh := fun i u hu => by
    have hu : (m.things ++ [t])[i]? = some u := hu
    show WhI _ ((m.things ++ [t]).take i) u.whr
    have mono : ∀ {l l' : List Thing} {w : Wh}, (∀ x, x ∈ l → x ∈ l') → WhI m l w → WhI { m with things := m.things ++ [t] } l' w := fun {l l' w} hs q => by
      cases w with
      | at_ p => exact q
      | with_ => trivial
      | nowhere => trivial
      | in_ y =>
        obtain ⟨v, hv, e⟩ := q
        exact ⟨v, hs v hv, e⟩
      | on_ y =>
        obtain ⟨v, hv, e⟩ := q
        exact ⟨v, hs v hv, e⟩
    rcases Nat.lt_or_ge i m.things.length with z | z
    · rw [List.getElem?_append_left z] at hu
      refine mono (fun x hx => ?_) (h.twh i u hu)
      rw [List.take_append_of_le_length (Nat.le_of_lt z)]
      exact hx
    · rw [List.getElem?_append_right z] at hu
      have : i - m.things.length = 0 := by
        rcases Nat.eq_zero_or_pos (i - m.things.length) with q | q
        · exact q
        · rw [List.getElem?_eq_none (by rw [List.length_singleton]; exact q)] at hu
          cases hu
      rw [this] at hu
      cases hu
      have e : i = m.things.length := by omega
      refine mono (fun x hx => ?_) hw
      rw [e, List.take_append_of_le_length (Nat.le_refl _), List.take_of_length_le (Nat.le_refl _)]
      exact hx
  td := fun u hu hdr => by
    rcases List.mem_append.mp hu with q | q
    · exact h.td u q hdr
    · rw [List.mem_singleton.mp q] at hdr ⊢
      exact hd hdr
  yl := h.yl
  ysrc := h.ysrc
  ydst := h.ydst
  ydir := h.ydir
  ydoor := fun y hy => (h.ydoor y hy).imp id fun ⟨u, hu, e⟩ => ⟨u, List.mem_append_left _ hu, e⟩
  yu := h.yu
/-- a way more -/
theorem MI.addY (h : MI m) {y : Way} (hl : m.ways.length < 13) (hs : y.src ∈ m.pnames) (ht : y.dst ∈ m.pnames) (hd : y.dir ∈ freeF m y.src) (hr : y.door = "" ∨ ∃ t, t ∈ m.things ∧ t.name = y.door ∧ ("door" : Str) ∈ t.traits) : MI { m with ways := m.ways ++ [y] } where
  sd := h.sd
  pl := h.pl
  pw := h.pw
  tl := h.tl
  tw := h.tw
  tok := h.tok
  twh := h.twh
  td := h.td
  yl := by
    show (m.ways ++ [y]).length ≤ 13
    rw [List.length_append]
    exact hl
  ysrc := fun z hz => by
    rcases List.mem_append.mp hz with q | q
    · exact h.ysrc z q
    · rw [List.mem_singleton.mp q]; exact hs
  ydst := fun z hz => by
    rcases List.mem_append.mp hz with q | q
    · exact h.ydst z q
    · rw [List.mem_singleton.mp q]; exact ht
  ydir := fun z hz => by
    rcases List.mem_append.mp hz with q | q
    · exact h.ydir z q
    · rw [List.mem_singleton.mp q]; exact (List.mem_filter.mp hd).1
  ydoor := fun z hz => by
    rcases List.mem_append.mp hz with q | q
    · exact h.ydoor z q
    · rw [List.mem_singleton.mp q]; exact hr
  yu := by
    show ((m.ways ++ [y]).map fun y => (y.src, y.dir)).Nodup
    rw [List.map_append, List.nodup_append]
    refine ⟨h.yu, List.nodup_cons.mpr ⟨fun z => (by cases z), List.nodup_nil⟩, fun a ha b hb e => ?_⟩
    rw [List.mem_singleton.mp hb] at e
    obtain ⟨z, hz, e2⟩ := List.mem_map.mp ha
    rw [e] at e2
    obtain ⟨e3, e4⟩ := Prod.mk.inj e2
    have q := (List.mem_filter.mp hd).2
    have : y.dir ∈ (m.ways.filter fun z => decide (z.src = y.src)).map (·.dir) := List.mem_map.mpr ⟨z, List.mem_filter.mpr ⟨hz, decide_eq_true e3⟩, e4⟩
    rw [decide_eq_true this] at q
    cases q
end
end Wt

/-! WtZ: promises of the model's makers. -/
namespace Wt
open PySem PySem.Spec PyProof.Rows L2
def F_word : List D → D → Prop := fun ds d => ∃ sd k, 0 ≤ k ∧ k < 78 ∧ ds = [.int sd, .int k] ∧ d = .str (wordF sd k)
def Called (d : D) : Prop := ∃ (noun : Str) (adjs : List Str), d = .tup [.str noun, .tup (adjs.map .str)] ∧ WordOk noun ∧ adjs.length ≤ 2 ∧ ∀ x, x ∈ adjs → WordOk x
def F_called : List D → (D → Prop) → Prop := fun ds S => ∃ (m : Mo) (n : Int), m.things.length ≤ 12 ∧ (∀ t, t ∈ m.things → ThOk t) ∧ ds = [m.d, .int n] ∧ S = Called
theorem atI_in {α : Type} (enc : α → D) (xs : List α) {i : Int} (h0 : 0 ≤ i) (h1 : i < xs.length) : ∃ x, x ∈ xs ∧ atI (xs.map enc) i = some (enc x) := by
  have hj : i.toNat < xs.length := by omega
  exact ⟨xs[i.toNat], List.getElem_mem _, atI_toNat h0 (by rw [List.getElem?_map, List.getElem?_eq_getElem hj]; rfl)⟩
def someL : List (List Int) := [[], [0], [1], [2], [3], [4], [0, 1], [0, 2], [0, 3], [0, 4], [1, 2], [1, 3], [1, 4], [2, 3], [2, 4], [3, 4]]
theorem some_ok : ∀ l, l ∈ someL → l.length ≤ 2 ∧ ∀ k, k ∈ l → 0 ≤ k ∧ k ≤ 4 := by
  have q : someL.all (fun l => decide (l.length ≤ 2) && l.all fun k => decide (0 ≤ k) && decide (k ≤ 4)) = true := by decide +kernel
  intro l hl
  obtain ⟨h1, h2⟩ := Bool.and_eq_true_iff.mp (List.all_eq_true.mp q l hl)
  refine ⟨of_decide_eq_true h1, fun k hk => ?_⟩
  obtain ⟨h3, h4⟩ := Bool.and_eq_true_iff.mp (List.all_eq_true.mp h2 k hk)
  exact ⟨of_decide_eq_true h3, of_decide_eq_true h4⟩
/-! laid: (text, list of texts) -/
def nlD (p : Str × List Str) : D := .tup [.str p.1, .lst (p.2.map .str)]
theorem nl_pl (p : Str × List Str) : (nlD p).pl = true := by
  have h := plL_strs p.2
  simp [nlD, D.pl, D.plL, h]
theorem nl_lay {p : Str × List Str} (h1 : PyData.strOk p.1 = true) (h2 : ∀ x, x ∈ p.2 → PyData.strOk x = true) : PyData.canLay0 (nlD p).py = true := by
  have h := canLay_strs h2
  simp [nlD, D.py, D.pyL, PyData.canLay0, PyData.canLayAll0, pyL_strs, h, h1]
theorem nl_depth (p : Str × List Str) : PyData.depth (nlD p).py ≤ 3 := by
  have h := depth_strs p.2
  simp only [nlD, D.py, D.pyL, PyData.depth, PyData.depthAll, pyL_strs, h]
  omega
theorem plL_nl : ∀ l : List (Str × List Str), D.plL (l.map nlD) = true
  | [] => by simp [D.plL]
  | t :: l => by simp [D.plL, plL_nl l, nl_pl]
theorem pyL_nl : ∀ l : List (Str × List Str), D.pyL (l.map nlD) = l.map fun t => (nlD t).py
  | [] => by simp [D.pyL]
  | t :: l => by simp [D.pyL, pyL_nl l]
theorem canLay_nl : ∀ {l : List (Str × List Str)}, (∀ p, p ∈ l → PyData.strOk p.1 = true ∧ ∀ x, x ∈ p.2 → PyData.strOk x = true) → PyData.canLayAll0 (l.map fun t => (nlD t).py) = true
  | [], _ => by simp [PyData.canLayAll0]
  | t :: l, h => by
    simp only [List.map_cons, PyData.canLayAll0, Bool.and_eq_true]
    exact ⟨nl_lay (h t (by simp)).1 (h t (by simp)).2, canLay_nl fun x hx => h x (by simp [hx])⟩
theorem depth_nl : ∀ l : List (Str × List Str), PyData.depthAll (l.map fun t => (nlD t).py) ≤ 3
  | [] => by simp [PyData.depthAll]
  | t :: l => by
    have h1 := depth_nl l
    have h2 := nl_depth t
    simp only [List.map_cons, PyData.depthAll]
    omega
theorem rd_notInNl {K : PySem.W.Frag} {p : Str × List Str} {l : List (Str × List Str)} (hp : PyData.strOk p.1 = true ∧ ∀ x, x ∈ p.2 → PyData.strOk x = true) (h : ∀ p, p ∈ l → PyData.strOk p.1 = true ∧ ∀ x, x ∈ p.2 → PyData.strOk x = true) :
    ∃ c : Bool, RD (rNotInD K) (nlD p) (.lst (l.map nlD)) (.bl c) := by
  refine ⟨_, rd_notInD (nl_pl p) (plL_nl l) ?_ ?_ rfl⟩
  · unfold SeqAt.shaped
    rw [nl_lay hp.1 hp.2, Bool.true_and, decide_eq_true_eq]
    have := nl_depth p
    omega
  · unfold SeqAt.shaped
    rw [pyL_nl]
    have h1 : PyData.canLay0 (.list (l.map fun t => (nlD t).py)) = true := by
      simp only [PyData.canLay0]
      exact canLay_nl h
    have h2 := depth_nl l
    rw [h1, Bool.true_and, decide_eq_true_eq]
    simp only [PyData.depth]
    omega
/-! lists of places against the empty list -/
theorem rd_neNilW {K : PySem.W.Frag} {l : List Wh} (h : ∀ w, w ∈ l → w.ok = true) : RD (rNeD K) (.lst (l.map Wh.d)) (.lst []) (.bl (!l.isEmpty)) := by
  refine rd_neD (by unfold D.pl; exact plL_wh l) rfl ?_ (shaped_strs (ss := []) (fun _ z => nomatch z)) ?_
  · unfold D.py
    exact shapedL_wh h
  · cases l <;> simp [D.py, D.pyL, PyData.eqv, PyData.eqvAll]
section
variable {K : PySem.W.Frag} {ρ : Env} {tl tb : TE} {ds : List D} {b : Bool}
/-- xs * int(b) -/
theorem en_repB (h : EvD tl ρ (.lst ds)) (hb : EvD tb ρ (.bl b)) (hl : ds.length ≤ 100) : EvN (tOp rRep tl (tCB cInt (tCons tb tNil))) ρ (if b then ds else []) := by
  cases b with
  | true =>
    have q := en_op h (ev_cb (ea_cons hb ea_nil) cd_intB) (rn_rep (ds := ds) (k := 1) (by omega) (by decide))
    refine q.is ?_
    simp
  | false =>
    have q := en_op h (ev_cb (ea_cons hb ea_nil) cd_intB) (rn_rep (ds := ds) (k := 0) (by omega) (by decide))
    refine q.is ?_
    simp
end
/-! ### the model's objects -/
structure Cds where
  mo : Addr
  th : Addr
  wy : Addr
  ss : Addr
def Cds.l (C : Cds) : List Addr := [C.mo, C.th, C.wy, C.ss]
def inC (C : Cds) : Mask := fun b => b ∈ C.l
def moF (C : Cds) (m : Mo) (vP : V) : List (Key × V) := [(.inr "seed", .int m.seed), (.inr "places", vP), (.inr "things", .ref C.th), (.inr "ways", .ref C.wy), (.inr "states", .ref C.ss)]
structure Ms (H : Hp) (C : Cds) (m : Mo) : Prop where
  nd : C.l.Nodup
  ob : ∃ vP, H C.mo = some (.dK (moF C m vP)) ∧ Dm (inC C) H vP (.lst (m.places.map placeD))
  th : ∃ xs, H C.th = some (.lst xs) ∧ DmL (inC C) H xs (m.things.map Thing.d)
  wy : ∃ xs, H C.wy = some (.lst xs) ∧ DmL (inC C) H xs (m.ways.map Way.d)
  ss : ∃ xs, H C.ss = some (.lst xs) ∧ DmL (inC C) H xs (m.states.map strowD)
theorem Cds.ne {C : Cds} (h : C.l.Nodup) : (C.th ≠ C.mo ∧ C.wy ≠ C.mo ∧ C.ss ≠ C.mo) ∧ (C.wy ≠ C.th ∧ C.ss ≠ C.th) ∧ C.ss ≠ C.wy := by
  unfold Cds.l at h
  simp only [List.nodup_cons, List.mem_cons, not_or, List.not_mem_nil, not_false_eq_true, and_true] at h
  obtain ⟨⟨a, b, c⟩, ⟨e, f⟩, g⟩ := h
  exact ⟨⟨Ne.symm a, Ne.symm b, Ne.symm c⟩, ⟨Ne.symm e, Ne.symm f⟩, Ne.symm g.1⟩
section
variable {H H2 : Hp} {C : Cds} {m : Mo}
theorem Ms.dm (h : Ms H C m) : Dm mt H (.ref C.mo) m.d := by
  obtain ⟨vP, e, m1⟩ := h.ob
  obtain ⟨w1, e1, k1⟩ := h.th
  obtain ⟨w2, e2, k2⟩ := h.wy
  obtain ⟨w3, e3, k3⟩ := h.ss
  exact .dic (fun z => z) (.inl e) (.cons (.int _) (.cons m1.toM (.cons (.lst (fun z => z) e1 k1.toM) (.cons (.lst (fun z => z) e2 k2.toM) (.cons (.lst (fun z => z) e3 k3.toM) .nil)))))
theorem Ms.same (h : Ms H C m) (s : Same H H2) : Ms H2 C m := by
  obtain ⟨vP, e, m1⟩ := h.ob
  obtain ⟨w1, e1, k1⟩ := h.th
  obtain ⟨w2, e2, k2⟩ := h.wy
  obtain ⟨w3, e3, k3⟩ := h.ss
  exact ⟨h.nd, ⟨vP, s _ _ e, m1.same s⟩, ⟨w1, s _ _ e1, k1.same s⟩, ⟨w2, s _ _ e2, k2.same s⟩, ⟨w3, s _ _ e3, k3.same s⟩⟩
theorem Ms.noTup (h : Ms H C m) : ∀ b xs, inC C b → H b ≠ some (.tup xs) := fun b xs hb z => by
  obtain ⟨vP, e, _⟩ := h.ob
  obtain ⟨w1, e1, _⟩ := h.th
  obtain ⟨w2, e2, _⟩ := h.wy
  obtain ⟨w3, e3, _⟩ := h.ss
  have hb2 : b = C.mo ∨ b = C.th ∨ b = C.wy ∨ b = C.ss := by simpa [inC, Cds.l] using hb
  rcases hb2 with q | q | q | q
  · rw [q, e] at z; cases z
  · rw [q, e1] at z; cases z
  · rw [q, e2] at z; cases z
  · rw [q, e3] at z; cases z
theorem Ms.setTh {v : V} {t : Thing} {xs : List V} (h : Ms H C m) (e0 : H C.th = some (.lst xs)) (hv : Dm (inC C) H v t.d) : Ms (upd H C.th (.lst (xs ++ [v]))) C { m with things := m.things ++ [t] } := by
  obtain ⟨vP, e, m1⟩ := h.ob
  obtain ⟨w1, e1, k1⟩ := h.th
  obtain ⟨w2, e2, k2⟩ := h.wy
  obtain ⟨w3, e3, k3⟩ := h.ss
  rw [e0] at e1
  cases e1
  have hp : inC C C.th := by simp [inC, Cds.l]
  obtain ⟨n1, n2, n3⟩ := Cds.ne h.nd
  refine ⟨h.nd, ⟨vP, by rw [upd_ne n1.1.symm]; exact e, m1.updO hp⟩, ⟨_, upd_same, ?_⟩, ⟨w2, by rw [upd_ne n2.1]; exact e2, k2.updO hp⟩, ⟨w3, by rw [upd_ne n2.2]; exact e3, k3.updO hp⟩⟩
  show DmL _ _ _ ((m.things ++ [t]).map Thing.d)
  rw [List.map_append]
  exact (k1.snoc hv).updO hp
theorem Ms.setWy {v : V} {y : Way} {xs : List V} (h : Ms H C m) (e0 : H C.wy = some (.lst xs)) (hv : Dm (inC C) H v y.d) : Ms (upd H C.wy (.lst (xs ++ [v]))) C { m with ways := m.ways ++ [y] } := by
  obtain ⟨vP, e, m1⟩ := h.ob
  obtain ⟨w1, e1, k1⟩ := h.th
  obtain ⟨w2, e2, k2⟩ := h.wy
  obtain ⟨w3, e3, k3⟩ := h.ss
  rw [e0] at e2
  cases e2
  have hp : inC C C.wy := by simp [inC, Cds.l]
  obtain ⟨n1, n2, n3⟩ := Cds.ne h.nd
  refine ⟨h.nd, ⟨vP, by rw [upd_ne n1.2.1.symm]; exact e, m1.updO hp⟩, ⟨w1, by rw [upd_ne n2.1.symm]; exact e1, k1.updO hp⟩, ⟨_, upd_same, ?_⟩, ⟨w3, by rw [upd_ne n3]; exact e3, k3.updO hp⟩⟩
  show DmL _ _ _ ((m.ways ++ [y]).map Way.d)
  rw [List.map_append]
  exact (k2.snoc hv).updO hp
theorem Ms.setSs {v : V} {y : Str × Int} {xs : List V} (h : Ms H C m) (e0 : H C.ss = some (.lst xs)) (hv : Dm (inC C) H v (strowD y)) : Ms (upd H C.ss (.lst (xs ++ [v]))) C { m with states := m.states ++ [y] } := by
  obtain ⟨vP, e, m1⟩ := h.ob
  obtain ⟨w1, e1, k1⟩ := h.th
  obtain ⟨w2, e2, k2⟩ := h.wy
  obtain ⟨w3, e3, k3⟩ := h.ss
  rw [e0] at e3
  cases e3
  have hp : inC C C.ss := by simp [inC, Cds.l]
  obtain ⟨n1, n2, n3⟩ := Cds.ne h.nd
  refine ⟨h.nd, ⟨vP, by rw [upd_ne n1.2.2.symm]; exact e, m1.updO hp⟩, ⟨w1, by rw [upd_ne n2.2.symm]; exact e1, k1.updO hp⟩, ⟨w2, by rw [upd_ne n3.symm]; exact e2, k2.updO hp⟩, ⟨_, upd_same, ?_⟩⟩
  show DmL _ _ _ ((m.states ++ [y]).map strowD)
  rw [List.map_append]
  exact (k3.snoc hv).updO hp
/-- model[f] read as it lies -/
theorem ms_at {σ : L2.St} {i : Nat} (h : Ms H C m) (hs : σ[i]? = some (some (.ref C.mo))) {f : Str} {v : V} (j : Nat) (hf : moKeys.findIdx (fun x => f == x) = j) (e : ∀ vP, (moF C m vP)[j]? = some (.inr f, v)) :
    ∀ H', Same H H' → ∀ Q : VK, Q v H' → tDGet (tVar i) (tC (.str f)) σ H' Q := fun H' sa Q q => by
  obtain ⟨vP, e0, _⟩ := h.ob
  exact ⟨_, hs, C.mo, v, rfl, .inl ⟨_, .inr f, .inl (sa _ _ e0), rfl, (valVat (keys := moKeys) j rfl hf (e vP)).symm⟩, q⟩
/-- model[f].append(row) -/
theorem u_app {K : PySem.W.Frag} {ρ : Env} {σ : L2.St} {D' : Ends} {to te : TE} {d : D} {p : Addr} {xs : List V} (hto : ∀ Q : VK, Q (.ref p) H → to σ H Q) (h : EvD te ρ d) (rz : Rz mt ρ σ H) (hp : H p = some (.lst xs)) (hz : xs.length < 100000)
    (k : ∀ v H', Same H H' → Dm mt H' v d → D'.nx σ (upd H' p (.lst (xs ++ [v])))) : tDrop (tBM K "list" rAppend to (tCons te tNil)) D' σ H :=
  hto _ ⟨.inl ⟨rfl, xs, SqL.of hp⟩, h mt σ H dom_mt rz _ fun v H1 s1 m1 => ⟨p, xs, v, rfl, rfl, s1 _ _ hp, sz_lt hz, k v H1 s1 m1⟩⟩
end
theorem s_forRA {O : Mask} {H0 H : Hp} {ρ : Env} {σ : L2.St} {D' : Ends} {tb : TS} {ta : TA} {n j : Nat} (hd : Dom O H0) (h : EvA ta ρ [.int (n : Int)]) (hn1 : n ≤ 100000) (A : Nat → L2.St → Hp → Prop) (Z : L2.St → Hp → Prop) (a0 : ∀ σ H, At O H0 ρ none σ H → A 0 σ H)
    (hs : (∀ σ H, Z σ H → D'.nx σ H) → ∀ i σ H, i < n → A i σ H → tb { D' with nx := A (i + 1), ct := A (i + 1), bk := D'.nx } (σ.set j (some (.int (i : Int)))) H)
    (hn : ∀ σ H, A n σ H → Z σ H) (hz : ∀ σ H, Z σ H → D'.nx σ H) (a : At O H0 ρ none σ H) : tFor (iRng1 ta) (gName j) tb D' σ H := by
  obtain ⟨s, r⟩ := a
  refine h O σ H (hd.same s) r _ fun vs H1 s1 m1 => ?_
  cases m1 with
  | cons m1 m2 =>
    cases m1
    cases m2
    refine ⟨(n : Int), rfl, by omega, by omega, ?_⟩
    have en : ((n : Int)).toNat = n := rfl
    rw [en]
    refine for_range (lo := 0) (n := n) A (a0 _ _ ⟨s.trans s1, Rz.same r s1⟩) (fun i σ H hi z => ?_) (fun σ H z => hz _ _ (hn σ H z))
    have e0 : (0 : Int) + (i : Int) = (i : Int) := Int.zero_add _
    rw [e0]
    exact hs hz i σ H hi z
theorem At.setI {O : Mask} {H0 H : Hp} {ρ : Env} {σ : L2.St} {j : Nat} {z : Int} (a : At O H0 ρ none σ H) : At O H0 (ρ.set j (some (.int z))) none (σ.set j (some (.int z))) H := ⟨a.1, Rz.set a.2 (.int z)⟩
structure Ext (m m' : Mo) : Prop where
  seed : m'.seed = m.seed
  places : m'.places = m.places
  states : m'.states = m.states
theorem Ext.refl (m : Mo) : Ext m m := ⟨rfl, rfl, rfl⟩
theorem Ext.trans {a b c : Mo} (h : Ext a b) (k : Ext b c) : Ext a c := ⟨k.seed.trans h.seed, k.places.trans h.places, k.states.trans h.states⟩
def SpAddT : Sp := fun vs H Q _ => ∃ C m n, Ms H C m ∧ MI m ∧ m.things.length < 12 ∧ vs = [.ref C.mo, .int n] ∧ ∀ H2 m', Fr (inC C) H H2 → Ms H2 C m' → MI m' → Ext m m' → Q .non H2
def SpAddY : Sp := fun vs H Q _ => ∃ C m n, Ms H C m ∧ MI m ∧ vs = [.ref C.mo, .int n, .int 12] ∧ ∀ H2 m', Fr (inC C) H H2 → Ms H2 C m' → MI m' → Ext m m' → Q .non H2
/-- a, b = a call that hands back some pair -/
theorem u_call2 {H : Hp} {ρ : Env} {σ : L2.St} {D' : Ends} {F : List D → (D → Prop) → Prop} {E : XK} {K : PySem.W.Frag} {ta : TA} {ds : List D} {i j : Nat} (h : EvA ta ρ ds) (f : F ds Called) (rz : Rz mt ρ σ H)
    (k : ∀ (noun : Str) (adjs : List Str) (x y : V) (H2 : Hp), WordOk noun → adjs.length ≤ 2 → (∀ a, a ∈ adjs → WordOk a) → Same H H2 → Dm mt H2 x (.str noun) → Dm mt H2 y (.tup (adjs.map .str)) → Rz mt ((ρ.set i (some (.str noun))).set j (some (.tup (adjs.map .str)))) ((σ.set i (some x)).set j (some y)) H2 → D'.nx ((σ.set i (some x)).set j (some y)) H2) :
    tAsg (tCall (SpS F) [] E ta) (gTup K 2 (gCons (gName i) (gCons (gName j) gNil))) D' σ H :=
  h mt σ H dom_mt rz _ fun vs H1 s1 m1 => ⟨mt, ds, Called, dom_mt, by rw [List.append_nil]; exact m1, f, fun v H2 d ⟨noun, adjs, e, h1, h2, h3⟩ s2 m2 => by
    subst e
    cases m2 with
    | tup n e r =>
      cases r with
      | cons r1 r =>
        cases r with
        | cons r2 r =>
          cases r
          exact ⟨_, _, rfl, SqT.of e, rfl, _, _, rfl, _, _, rfl, rfl, k noun adjs _ _ H2 h1 h2 h3 (s1.trans s2) r1 r2 (((Rz.same rz (s1.trans s2)).set r1).set r2)⟩⟩
end Wt

/-! WtZ2: what the makers lean on. -/
namespace Wt
open PySem PySem.Spec PyProof.Rows L2
def baseL : List (List Str) := [[], ["box"], ["box", "clear"], ["box"], ["stand"], ["stand"], ["wear"], []]
def trF (l : List Str) (b1 b2 b3 : Bool) : List Str := ((l ++ if b1 then ([("shut" : Str)] : List Str) else []) ++ if b2 then ([("lit" : Str)] : List Str) else []) ++ if b3 then ([("fixed" : Str)] : List Str) else []
theorem tr_ok {l : List Str} (hl : l ∈ baseL) (b1 b2 b3 : Bool) : (trF l b1 b2 b3).length ≤ 8 ∧ ¬ (("box" : Str) ∈ trF l b1 b2 b3 ∧ ("stand" : Str) ∈ trF l b1 b2 b3) ∧ (∀ x, x ∈ trF l b1 b2 b3 → PyData.strOk x = true) ∧ ("door" : Str) ∉ trF l b1 b2 b3 := by
  have q : baseL.all (fun l => [true, false].all fun b1 => [true, false].all fun b2 => [true, false].all fun b3 => decide ((trF l b1 b2 b3).length ≤ 8) && (!(decide (("box" : Str) ∈ trF l b1 b2 b3) && decide (("stand" : Str) ∈ trF l b1 b2 b3)) && ((trF l b1 b2 b3).all (fun x => PyData.strOk x) && !decide (("door" : Str) ∈ trF l b1 b2 b3)))) = true := by decide +kernel
  have mb : ∀ b : Bool, b ∈ [true, false] := fun b => by cases b <;> simp
  have h := List.all_eq_true.mp (List.all_eq_true.mp (List.all_eq_true.mp (List.all_eq_true.mp q l hl) b1 (mb b1)) b2 (mb b2)) b3 (mb b3)
  obtain ⟨h1, h⟩ := Bool.and_eq_true_iff.mp h
  obtain ⟨h2, h⟩ := Bool.and_eq_true_iff.mp h
  obtain ⟨h3, h4⟩ := Bool.and_eq_true_iff.mp h
  refine ⟨of_decide_eq_true h1, fun ⟨a, b⟩ => ?_, fun x hx => List.all_eq_true.mp h3 x hx, fun z => ?_⟩
  · rw [decide_eq_true a, decide_eq_true b] at h2
    cases h2
  · rw [decide_eq_true z] at h4
    cases h4
def dtrF (i j : Int) : List Str := (([("door" : Str)] : List Str) ++ (if i = 1 then ([("lit" : Str)] : List Str) else [])) ++ (if j = 1 then ([("shut" : Str)] : List Str) else [])
theorem dtr_q (b1 b2 : Int) (h1 : b1 = 0 ∨ b1 = 1) (h2 : b2 = 0 ∨ b2 = 1) : (decide ((dtrF b1 b2).length ≤ 8) && (!decide (("box" : Str) ∈ dtrF b1 b2) && ((dtrF b1 b2).all (fun x => PyData.strOk x) && decide (("door" : Str) ∈ dtrF b1 b2)))) = true := by
  rcases h1 with h1 | h1 <;> rcases h2 with h2 | h2 <;> subst h1 <;> subst h2 <;> decide +kernel
theorem dtr_ok {i j : Int} (hi : i = 0 ∨ i = 1) (hj : j = 0 ∨ j = 1) : (dtrF i j).length ≤ 8 ∧ ¬ (("box" : Str) ∈ dtrF i j ∧ ("stand" : Str) ∈ dtrF i j) ∧ (∀ x, x ∈ dtrF i j → PyData.strOk x = true) ∧ ("door" : Str) ∈ dtrF i j := by
  obtain ⟨h1, h⟩ := Bool.and_eq_true_iff.mp (dtr_q i j hi hj)
  obtain ⟨h2, h⟩ := Bool.and_eq_true_iff.mp h
  obtain ⟨h3, h4⟩ := Bool.and_eq_true_iff.mp h
  exact ⟨of_decide_eq_true h1, fun z => (by rw [decide_eq_true z.1] at h2; cases h2), fun x hx => List.all_eq_true.mp h3 x hx, of_decide_eq_true h4⟩
theorem dtr_D {i j : Int} (hi : i = 0 ∨ i = 1) (hj : j = 0 ∨ j = 1) : D.tup ((([D.str "door"] : List D) ++ (if i = 1 then [D.str "lit"] else [])) ++ (if j = 1 then [D.str "shut"] else [])) = .tup ((dtrF i j).map .str) := by
  rcases hi with h1 | h1 <;> rcases hj with h2 | h2 <;> subst h1 <;> subst h2 <;> rfl
theorem thing_tu (t : Thing) : t.d.tu = true := by
  have h1 := tu_strs t.adjs
  have h2 := tu_strs t.traits
  have h3 := tu_wh t.whr
  simp [Thing.d, D.tu, D.tuL, h1, h2, h3]
theorem way_tu (y : Way) : y.d.tu = true := by simp [Way.d, D.tu, D.tuL]
theorem strow_tu (p : Str × Int) : (strowD p).tu = true := by simp [strowD, D.tu, D.tuL]
section
variable {m : Mo}
theorem holder_wi (mi : MI m) {w : Wh} (h : w ∈ holdersF m) : WhI m m.things w ∧ w.ok = true := by
  obtain ⟨t, ht, hw⟩ := List.mem_flatMap.mp h
  have hn := (mi.tok t ht).name.2.2
  rcases List.mem_append.mp hw with q | q
  · by_cases hb : ("box" : Str) ∈ t.traits
    · rw [if_pos hb] at q
      rw [List.mem_singleton.mp q]
      exact ⟨⟨t, ht, rfl, hb⟩, hn⟩
    · rw [if_neg hb] at q
      cases q
  · by_cases hb : ("stand" : Str) ∈ t.traits
    · rw [if_pos hb] at q
      rw [List.mem_singleton.mp q]
      exact ⟨⟨t, ht, rfl, hb⟩, hn⟩
    · rw [if_neg hb] at q
      cases q
theorem MI.pOk (mi : MI m) {p : Str} (h : p ∈ m.pnames) : (Wh.at_ p).ok = true := by
  obtain ⟨q, hq, e⟩ := List.mem_map.mp h
  rw [← e]
  exact (mi.pok q hq).2.2
end
theorem u_thenZ {D' : Ends} {σ : L2.St} {H : Hp} {t : TS} (Z : L2.St → Hp → Prop) (h : (∀ σ H, Z σ H → D'.nx σ H) → t D' σ H) (hz : ∀ σ H, Z σ H → D'.nx σ H) : t D' σ H := h hz
/-- name = a new list of texts, kept as it lies -/
theorem u_asgS {ρ : Env} {σ : L2.St} {H : Hp} {D' : Ends} {te : TE} {ss : List Str} {i : Nat} (h : EvN te ρ (ss.map .str)) (rz : Rz mt ρ σ H) (k : ∀ p H2, H p = none → Same H H2 → H2 p = some (.lst (ss.map V.str)) → Rz mt (ρ.set i (some (.lst (ss.map .str)))) (σ.set i (some (.ref p))) H2 → D'.nx (σ.set i (some (.ref p))) H2) : tAsg te (gName i) D' σ H :=
  h mt σ H dom_mt rz _ fun p xs H2 np s2 e2 m2 => by
    have er := m2.strs
    subst er
    exact k p H2 np s2 e2 ((Rz.same rz s2).set (.lst (fun z => z) e2 (DmL.ofStrs ss)))
theorem Ms.alloc {H : Hp} {C : Cds} {m : Mo} (h : Ms H C m) {p : Addr} (n : H p = none) : ¬ inC C p := fun z => by
  obtain ⟨vP, e, _⟩ := h.ob
  obtain ⟨w1, e1, _⟩ := h.th
  obtain ⟨w2, e2, _⟩ := h.wy
  obtain ⟨w3, e3, _⟩ := h.ss
  have hb2 : p = C.mo ∨ p = C.th ∨ p = C.wy ∨ p = C.ss := by simpa [inC, Cds.l] using z
  rcases hb2 with q | q | q | q
  · rw [q, e] at n; cases n
  · rw [q, e1] at n; cases n
  · rw [q, e2] at n; cases n
  · rw [q, e3] at n; cases n
theorem strs_if {b : Bool} {x : Str} : (if b then [D.str x] else []) = (if b then [x] else []).map D.str := by cases b <;> rfl
end Wt

/-! WtZ3: the script's cells; what the model's maker and the law lean on. -/
namespace Wt
open PySem PySem.Spec PyProof.Rows L2
theorem SqL.same {K : PySem.W.Frag} {H H2 : Hp} {a : Addr} {xs : List V} (h : SqL K H a xs) (s : Same H H2) : SqL K H2 a xs := by
  rcases h with h | h
  · rcases h with h | ⟨o, h⟩
    · exact .inl (.inl (s _ _ h))
    · exact .inl (.inr ⟨o, s _ _ h⟩)
  · exact .inr h
theorem Same.fr {X : Mask} {H0 H H2 : Hp} (s : Same H0 H) (f : Fr X H H2) (h : ∀ b, X b → H0 b = none) : Same H0 H2 := fun b o e => f b o (fun z => by rw [h b z] at e; cases e) (s b o e)
theorem Rz.none_ {O : Mask} {σ : L2.St} {H : Hp} {n : Nat} (h : σ.length = n) : Rz O (List.replicate n none) σ H := ⟨by rw [List.length_replicate]; exact h, fun i d e => by
  rw [List.getElem?_replicate] at e
  split at e <;> cases e⟩
theorem Rz.pin {O : Mask} {ρ : Env} {σ : L2.St} {H : Hp} {i : Nat} {v : V} {d : D} (h : Rz O ρ σ H) (e : σ[i]? = some (some v)) (m : Dm O H v d) : Rz O (ρ.set i (some d)) σ H := by
  refine ⟨by rw [List.length_set]; exact h.len, fun j d' q => ?_⟩
  by_cases hj : i = j
  · subst hj
    by_cases hi : i < ρ.length
    · rw [List.getElem?_set_self hi] at q
      cases q
      exact ⟨v, e, m⟩
    · rw [List.getElem?_eq_none (by rw [List.length_set]; omega)] at q
      cases q
  · rw [List.getElem?_set_ne hj] at q
    exact h.at_ j d' q
/-- script[:63] + [a, b] -/
theorem cells_run {K : PySem.W.Frag} {σ : L2.St} {H : Hp} {i : Nat} {a : Addr} {ns : List Int} {x y : Int} (hs : σ[i]? = some (some (.ref a))) (h : SqL K H a (ns.map V.int)) (hl : ns.length ≤ 63) :
    ∀ R : List V → Hp → Prop, (∀ p H1, H p = none → Same H H1 → H1 p = some (.lst ((ns ++ [x, y]).map V.int)) → R [.ref p] H1) → tCons (tOp rCat (tSl (rSlL K) (tVar i) tNoPart (tPart (tC (.int 63)))) (tLst (tCons (tC (.int x)) (tCons (tC (.int y)) tNil)))) tNil σ H R := fun R q => by
  refine ⟨_, hs, 63, rfl, a, _, rfl, h, fun p np => ?_⟩
  refine ⟨(by show 2 ≤ sizeLine; rw [sizeLine_eq]; decide), fun p2 n2 => ?_⟩
  have ec : cutV (ns.map V.int) none (some 63) = ns.map V.int := by
    unfold cutV HT.sIx
    simp
    rw [Nat.min_eq_right hl]
    exact List.take_of_length_le (by rw [List.length_map]; exact Nat.le_refl _)
  have e1 : (upd (upd H p (.lst (cutV (ns.map V.int) none (some 63)))) p2 (.lst [V.int x, V.int y])) p = some (.lst (ns.map V.int)) := by
    rw [upd_ne fun z => (by rw [← z, upd_same] at n2; cases n2), upd_same, ec]
  refine ⟨p, p2, _, _, rfl, rfl, e1, upd_same, ?_, fun p3 n3 => ?_⟩
  · rw [List.length_map]
    show ns.length + 2 ≤ _
    rw [sizeLine_eq]
    omega
  · have s1 : Same H (upd (upd (upd H p (.lst (cutV (ns.map V.int) none (some 63)))) p2 (.lst [V.int x, V.int y])) p3 (.lst (ns.map V.int ++ [V.int x, V.int y]))) := ((Same.new np).trans (Same.new n2)).trans (Same.new n3)
    refine q p3 _ (((Same.new np).trans (Same.new n2)).free n3) s1 ?_
    rw [upd_same, List.map_append]
    rfl
/-- for k, cell in enumerate(cells) -/
theorem u_forE {K : PySem.W.Frag} {σ : L2.St} {H : Hp} {D' : Ends} {ta : TA} {tb : TS} {zs : List Int} {j1 j2 : Nat} (hta : ∀ R : List V → Hp → Prop, (∀ p H1, H p = none → Same H H1 → H1 p = some (.lst (zs.map V.int)) → R [.ref p] H1) → ta σ H R)
    (A : Addr → Nat → L2.St → Hp → Prop) (hA : ∀ p i σ H, A p i σ H → H p = some (.lst (zs.map V.int))) (h0 : ∀ p H1, H p = none → Same H H1 → H1 p = some (.lst (zs.map V.int)) → A p 0 σ H1)
    (hs : ∀ p i z σ H T, zs[i]? = some z → A p i σ H → H T = none → tb { D' with nx := A p (i + 1), ct := A p (i + 1), bk := D'.nx } ((σ.set j1 (some (.int (i : Nat)))).set j2 (some (.int z))) (upd H T (.tup [.int (i : Nat), .int z])))
    (hn : ∀ p σ H, A p zs.length σ H → D'.nx σ H) : tFor (iEnum K ta) (gTup K 2 (gCons (gName j1) (gCons (gName j2) gNil))) tb D' σ H := by
  refine hta _ fun p H1 np s1 e1 => ⟨p, _, rfl, SqL.of e1, ?_⟩
  refine ⟨fun i m σ H => m = zs.length - i ∧ i ≤ zs.length ∧ A p i σ H, ⟨_, rfl, Nat.zero_le _, h0 p H1 np s1 e1⟩, ?_⟩
  rintro i m σ H ⟨rfl, hi, z⟩
  have sq : SqL K H p (zs.map V.int) := SqL.of (hA _ _ _ _ z)
  by_cases hlt : i < zs.length
  · refine .inr ⟨⟨_, V.int zs[i], sq, by simp [hlt]⟩, fun σ H => A p (i + 1) σ H, fun σ' H' z' => ⟨zs.length - (i + 1), by omega, rfl, hlt, z'⟩, fun x H' y => ?_⟩
    obtain ⟨T, y, rfl, nT, rfl, hy⟩ := y
    have q := hy _ sq
    rw [List.getElem?_map, List.getElem?_eq_getElem hlt] at q
    have q2 : V.int zs[i] = y := Option.some.inj q
    subst q2
    refine ⟨T, _, rfl, SqT.of upd_same, rfl, _, _, rfl, _, _, rfl, rfl, ?_⟩
    exact hs p i _ σ H T (List.getElem?_eq_getElem hlt) z nT
  · have e : i = zs.length := by omega
    subst e
    exact .inl ⟨⟨_, sq, by rw [List.length_map]; exact Nat.le_refl _⟩, hn p σ H z⟩
/-- f(x, ..), x a name, as it lies -/
theorem u_callM {σ : L2.St} {H : Hp} {ρ : Env} {D' : Ends} {sp : Sp} {E : XK} {ta : TA} {ds : List D} {i : Nat} {v : V} (hs : σ[i]? = some (some v)) (h : EvA ta ρ ds) (rz : Rz mt ρ σ H) (k : ∀ vs H2, Same H H2 → DmL mt H2 vs ds → sp (v :: vs) H2 (fun _ H1 => D'.nx σ H1) E) :
    tDrop (tCall sp [] E (tCons (tVar i) ta)) D' σ H := ⟨v, hs, h mt σ H dom_mt rz _ fun vs H2 s2 m2 => by show sp ((v :: vs) ++ []) _ _ _; rw [List.append_nil]; exact k vs H2 s2 m2⟩
theorem u_forR {H : Hp} {ρ : Env} {σ : L2.St} {D' : Ends} {tb : TS} {ta : TA} {n j : Nat} (h : EvA ta ρ [.int (n : Int)]) (rz : Rz mt ρ σ H) (hn1 : n ≤ 100000) (A : Nat → L2.St → Hp → Prop) (a0 : ∀ H1, Same H H1 → A 0 σ H1)
    (hs : ∀ i σ H, i < n → A i σ H → tb { D' with nx := A (i + 1), ct := A (i + 1), bk := D'.nx } (σ.set j (some (.int (i : Int)))) H) (hn : ∀ σ H, A n σ H → D'.nx σ H) : tFor (iRng1 ta) (gName j) tb D' σ H := by
  refine h mt σ H dom_mt rz _ fun vs H1 s1 m1 => ?_
  cases m1 with
  | cons m1 m2 =>
    cases m1
    cases m2
    refine ⟨(n : Int), rfl, by omega, by omega, ?_⟩
    have en : ((n : Int)).toNat = n := rfl
    rw [en]
    refine for_range (lo := 0) (n := n) A (a0 _ s1) (fun i σ H hi z => ?_) (fun σ H z => hn σ H z)
    have e0 : (0 : Int) + (i : Int) = (i : Int) := Int.zero_add _
    rw [e0]
    exact hs i σ H hi z
theorem tC_run {c : V} {σ : L2.St} {H : Hp} {Q : VK} (h : Q c H) : tC c σ H Q := h
theorem MI.st {m : Mo} (h : MI m) (l : List (Str × Int)) : MI { m with states := l } :=
  { sd := h.sd, pl := h.pl, pw := h.pw, tl := h.tl, tw := h.tw, tok := h.tok, twh := h.twh, td := h.td, yl := h.yl, ysrc := h.ysrc, ydst := h.ydst, ydir := h.ydir, ydoor := h.ydoor, yu := h.yu }
def placesF (sd : Int) : List (Str × Bool) := (List.range (1 + sd % 8).toNat).map fun (k : Nat) => (wordF sd (k : Int), decide (drawnF sd (k : Int) % 3 = 1))
theorem mi0 {sd : Int} (h : 0 ≤ sd) : MI ⟨sd, placesF sd, [], [], []⟩ where
  sd := h
  pl := by
    show (placesF sd).length = _
    unfold placesF
    rw [List.length_map, List.length_range]
  pw := fun i p hp => by
    have hp : (placesF sd)[i]? = some p := hp
    unfold placesF at hp
    rw [List.getElem?_map] at hp
    obtain ⟨k, hk, e⟩ := Option.map_eq_some_iff.mp hp
    have hk2 : k = i := by
      have hl := (List.getElem?_eq_some_iff.mp hk)
      obtain ⟨hl1, hl2⟩ := hl
      rw [List.getElem_range] at hl2
      exact hl2.symm
    rw [← e, hk2]
  tl := Nat.zero_le _
  tw := fun i t ht => by
    have ht : ([] : List Thing)[i]? = some t := ht
    simp at ht
  tok := fun t ht => by cases ht
  twh := fun i t ht => by
    have ht : ([] : List Thing)[i]? = some t := ht
    simp at ht
  td := fun t ht => by cases ht
  yl := Nat.zero_le _
  ysrc := fun y hy => by cases hy
  ydst := fun y hy => by cases hy
  ydir := fun y hy => by cases hy
  ydoor := fun y hy => by cases hy
  yu := List.nodup_nil
theorem mo_merge (C : Cds) (m : Mo) (vP : V) : mergeK [] (moF C m vP) = moF C m vP := by
  have h : ((([] : List (Key × V)) ++ moF C m vP).map (·.1)).Nodup := nodup_inr (keys := moKeys) (by decide +kernel)
  rw [mergeK_new _ _ h]
  rfl
def SpModel (K : PySem.W.Frag) : Sp := fun vs H Q _ => ∃ (a : Addr) (ns : List Int), ns.length ≤ 63 ∧ SqL K H a (ns.map V.int) ∧ vs = [.ref a, .int 12] ∧ ∀ H2 C m, (∀ b, b ∈ C.l → H b = none) → Same H H2 → Ms H2 C m → MI m → SI m → Q (.ref C.mo) H2
def SpLaw (K : PySem.W.Frag) : Sp := fun vs H Q _ => ∃ (a : Addr) (ns : List Int), ns.length ≤ 63 ∧ SqL K H a (ns.map V.int) ∧ vs = [.ref a] ∧ ∀ H', Q (.bl true) H'
end Wt

/-! WtZ4: what the law leans on. -/
namespace Wt
open PySem PySem.Spec PyProof.Rows L2
theorem St.dom {O : Mask} {H : Hp} {S W : Addr} {A : Ads} {m : Mo} {s : Sta} (h : St O H S W A m s) : Dom (inA A) H := fun b hb => by
  obtain ⟨dx, vT, vR, vO, vY, e, _⟩ := h.ob
  obtain ⟨w1, e1, _⟩ := h.wh
  obtain ⟨w2, e2, _⟩ := h.ld
  obtain ⟨w3, e3, _⟩ := h.dr
  obtain ⟨w4, e4, _⟩ := h.ct
  have hb2 : b = A.st ∨ b = A.wh ∨ b = A.ld ∨ b = A.dr ∨ b = A.ct := by simpa [inA, Ads.l] using hb
  rcases hb2 with q | q | q | q | q
  · rw [q, e]; exact fun z => nomatch z
  · rw [q, e1]; exact fun z => nomatch z
  · rw [q, e2]; exact fun z => nomatch z
  · rw [q, e3]; exact fun z => nomatch z
  · rw [q, e4]; exact fun z => nomatch z
theorem Ow.dom {O : Mask} {H : Hp} {B : Bds} {s : Sta} (h : Ow O H B s) : Dom (inB B) H := fun b hb => by
  obtain ⟨w1, e1, _⟩ := h.wh
  obtain ⟨w2, e2, _⟩ := h.op
  obtain ⟨w3, e3, _⟩ := h.wo
  obtain ⟨w4, e4, _⟩ := h.nu
  have hb2 : b = B.ow ∨ b = B.wh ∨ b = B.op ∨ b = B.wo ∨ b = B.nu := by simpa [inB, Bds.l] using hb
  rcases hb2 with q | q | q | q | q
  · rw [q, h.ob]; exact fun z => nomatch z
  · rw [q, e1]; exact fun z => nomatch z
  · rw [q, e2]; exact fun z => nomatch z
  · rw [q, e3]; exact fun z => nomatch z
  · rw [q, e4]; exact fun z => nomatch z
theorem u_make {σ : L2.St} {H : Hp} {ρ : Env} {D' : Ends} {C : Addr} {sp : Sp} {E : XK} {ta : TA} {ds : List D} {i : Nat} (h : EvA ta ρ ds) (rz : Rz mt ρ σ H)
    (k : ∀ ws H2 x dx, Same H H2 → DmL mt H2 ws ds → H2 x = none → H2 dx = none → dx ≠ x → sp (.ref x :: ws) (upd (upd H2 dx (.own x)) x (.ins C dx [])) (fun v H3 => v = .non ∧ D'.nx (σ.set i (some (.ref x))) H3) E) : tAsg (tMake C sp [] E ta) (gName i) D' σ H :=
  h mt σ H dom_mt rz _ fun ws H2 s2 m2 x dx nx ndx ne => by
    rw [List.append_nil]
    exact k ws H2 x dx s2 m2 nx ndx ne
theorem u_make1 {σ : L2.St} {H : Hp} {D' : Ends} {C : Addr} {sp : Sp} {E : XK} {i j : Nat} {v : V} (hs : σ[j]? = some (some v))
    (k : ∀ x dx, H x = none → H dx = none → dx ≠ x → sp [.ref x, v] (upd (upd H dx (.own x)) x (.ins C dx [])) (fun v H3 => v = .non ∧ D'.nx (σ.set i (some (.ref x))) H3) E) : tAsg (tMake C sp [] E (tCons (tVar j) tNil)) (gName i) D' σ H :=
  ⟨v, hs, fun x dx nx ndx ne => k x dx nx ndx ne⟩
theorem u_call1 {σ : L2.St} {H : Hp} {D' : Ends} {sp : Sp} {E : XK} {i j : Nat} {v : V} (hs : σ[j]? = some (some v)) (k : sp [v] H (fun u H3 => D'.nx (σ.set i (some u)) H3) E) : tAsg (tCall sp [] E (tCons (tVar j) tNil)) (gName i) D' σ H :=
  ⟨v, hs, k⟩
theorem wh_dp (n : Nat) (w : Wh) : D.dp (n + 2) w.d = true := by
  cases w <;> simp [Wh.d, D.dp, D.dpL]
theorem tup_dp {n : Nat} {l : List D} (hl : l.length < 10000) (h : ∀ d, d ∈ l → D.dp n d = true) : D.dp (n + 1) (.tup l) = true := by
  unfold D.dp
  rw [decide_eq_true hl, dpL_of h]
  rfl
theorem told_dp {m : Mo} {s : Sta} (wf : WF m s) : D.dp 5 (toldS s) = true := by
  have h1 := wf.whl
  have h2 := wf.opsl
  have h3 := wf.wornl
  have h4 := wf.numsl
  have ss : ∀ l : List Str, l.length ≤ 12 → D.dp 4 (.tup (l.map .str)) = true := fun l hl => tup_dp (by rw [List.length_map]; omega) fun d hd => by
    obtain ⟨x, _, e⟩ := List.mem_map.mp hd
    rw [← e]
    rfl
  have fl : ∀ (c : Str → Bool) (l : List Str), l.length ≤ 12 → (l.filter c).length ≤ 12 := fun c l h => Nat.le_trans (List.length_filter_le ..) h
  unfold toldS
  refine tup_dp (by show 6 < 10000; decide) fun d hd => ?_
  have hd2 : d = .str s.here ∨ d = .int s.turn ∨ d = .tup (s.whs.map fun p => p.2.d) ∨ d = .tup (((s.ops.map (·.1)).filter (opn s)).map .str) ∨ d = .tup (((s.worn.map (·.1)).filter (wornF s)).map .str) ∨ d = .tup (s.nums.map fun p => .int p.2) := by simpa using hd
  rcases hd2 with e | e | e | e | e | e
  · rw [e]; rfl
  · rw [e]; rfl
  · rw [e]
    refine tup_dp (by rw [List.length_map]; omega) fun d hd => ?_
    obtain ⟨x, _, e⟩ := List.mem_map.mp hd
    rw [← e]
    exact wh_dp 1 _
  · rw [e]
    exact ss _ (fl _ _ (by rw [List.length_map]; exact h2))
  · rw [e]
    exact ss _ (fl _ _ (by rw [List.length_map]; exact h3))
  · rw [e]
    refine tup_dp (by rw [List.length_map]; omega) fun d hd => ?_
    obtain ⟨x, _, e⟩ := List.mem_map.mp hd
    rw [← e]
    rfl
end Wt

namespace Wt
open PySem PySem.Spec PyProof.Rows L2
abbrev N_S_need_thing : List Str := ["self", "thing"]
theorem sc_S_need_thing : FnScope N_S_need_thing ["self", "thing"] (defScope s_S_need_thing) := ⟨rfl, rfl, rfl, by decide +kernel, rfl, by decide +kernel, by decide +kernel⟩
theorem d_S_need_thing {P : Program} {w : World} {K : PySem.W.Frag} {mg : Str → Option Value} {base : Heap} {S W : Addr} {f : Addr} {fd : FuncData} (F : FunW K "need_thing" "State.need_thing" s_S_need_thing f fd) (T : Txt K mg S W) : FnOk P w K mg base CX0 1 f fd ["self", "thing"] (SpD (F_need S W)) := by
  refine F.ok sc_S_need_thing (SpD.len (by rintro ds d ⟨m, s, x, wf, rfl, hx, rfl⟩; rfl)) (fun cdv A outer s0 H vs Q E hr h => ?_)
  have hu := hu_of hr
  obtain ⟨O, ds, d, hd, hm, ⟨m, s, x, wf, rfl, hx, rfl⟩, k⟩ := h
  refine ⟨_, PSs.nox (pss_one (ps_if (PW.pt (pw_or (pt_not (pt_val (pe_callB (kIsi (K := K)) (by rfl) T.isinstance (by decide +kernel) (pa_cons (pv 1) (pa_cons (pe_bltn (v := .ty "str") (by rfl) T.str (by decide +kernel) rfl) pa_nil))))) (pw_or1 (pt_cmp (pc_dnotin hu (pv 1) (kFld (K := K) (pv 0) rfl)) (by rfl))))) (pss_one ps_never) pss_nil)), ?_⟩
  have a : At O H [some (stD S W m s), some (.str x)] none (L2.start N_S_need_thing vs) H := At.begin_ (N := N_S_need_thing) hm
  obtain ⟨t, ht⟩ := thg_some hx
  refine s_if (b := false) hd ((et_or (et_not (et_B (ev_cb (ea_cons (ev_var rfl) (ea_cons ev_ty ea_nil)) (cd_isi (r := true) rfl (by decide +kernel))))) (fun _ => et_B (ev_dnotin (ev_var rfl) (ev_sf T (ev_var rfl) s_rows)))).is ?_).up (fun z => nomatch z) (fun _ σ H1 a => k _ _ a.1 .non) a
  rw [val_row ht]
  rfl
abbrev N_S_has_trait : List Str := ["self", "thing", "trait"]
theorem sc_S_has_trait : FnScope N_S_has_trait ["self", "thing", "trait"] (defScope s_S_has_trait) := ⟨rfl, rfl, rfl, by decide +kernel, rfl, by decide +kernel, by decide +kernel⟩
theorem d_S_has_trait {P : Program} {w : World} {K : PySem.W.Frag} {mg : Str → Option Value} {base : Heap} {S W : Addr} {f : Addr} {fd : FuncData} (F : FunW K "has_trait" "State.has_trait" s_S_has_trait f fd) (T : Txt K mg S W)
    (c1 : CalM P w K mg base S "need_thing" 1 ["self", "thing"] (SpD (F_need S W))) : FnOk P w K mg base CX0 2 f fd ["self", "thing", "trait"] (SpD (F_has S W)) := by
  obtain ⟨_, _, G1, M1, B1⟩ := c1.ex
  refine F.ok sc_S_has_trait (SpD.len (by rintro ds d ⟨m, s, x, tr, wf, rfl, hx, rfl⟩; rfl)) (fun cdv A outer s0 H vs Q E hr h => ?_)
  have hu := hu_of hr
  obtain ⟨O, ds, d, hd, hm, ⟨m, s, x, tr, wf, rfl, hx, rfl⟩, k⟩ := h
  refine ⟨_, PSs.nox (pss_cons (ps_expr (pe_meth (pv 0) T.clS M1 G1 (hr.mono (by decide)) B1 .nil pass0 (pa_cons (pv 1) pa_nil)))
    (pss_one (ps_ret (pe_cmpR (kIn (K := K)) (pv 2) (pe_ix (kIxT (K := K)) (pe_dget hu (kFld (K := K) (pv 0) rfl) (pv 1) (fun _ _ => rfl)) pe_int (fun _ _ => rfl)) (by rfl))))), ?_⟩
  have a : At O H [some (stD S W m s), some (.str x), some (.str tr)] none (L2.start N_S_has_trait vs) H := At.begin_ (N := N_S_has_trait) hm
  obtain ⟨t, ht, e⟩ := thgF hx tr
  rw [e] at k
  refine s_seq (s_drop hd (ev_meth (fs := sfs W m s) (ev_var rfl) (s_no (by decide +kernel)) (ea_cons (ev_var rfl) ea_nil) ⟨m, s, x, wf, rfl, hx, rfl⟩).up (fun σ H1 a => ?_) a)
  exact s_ret hd (ev_op (ev_var rfl) (ev_op (ev_dget (ev_sf T (ev_var rfl) s_rows) (ev_var rfl) (val_row ht)) ev_int (rd_ixT (i := 4) rfl)) rd_inT).up k a
abbrev N_S_is_dark : List Str := ["self", "place"]
theorem sc_S_is_dark : FnScope N_S_is_dark ["self", "place"] (defScope s_S_is_dark) := ⟨rfl, rfl, rfl, by decide +kernel, rfl, by decide +kernel, by decide +kernel⟩
theorem d_S_is_dark {P : Program} {w : World} {K : PySem.W.Frag} {mg : Str → Option Value} {base : Heap} {S W : Addr} {f : Addr} {fd : FuncData} (F : FunW K "is_dark" "State.is_dark" s_S_is_dark f fd) (T : Txt K mg S W) : FnOk P w K mg base CX0 1 f fd ["self", "place"] (SpD (F_dark S W)) := by
  refine F.ok sc_S_is_dark (SpD.len (by rintro ds d ⟨m, s, p, wf, rfl, hp, rfl⟩; rfl)) (fun cdv A outer s0 H vs Q E hr h => ?_)
  have hu := hu_of hr
  obtain ⟨O, ds, d, hd, hm, ⟨m, s, p, wf, rfl, hp, rfl⟩, k⟩ := h
  refine ⟨_, PSs.nox (pss_cons (ps_if (PW.pt (pw_or (pt_not (pt_val (pe_callB (kIsi (K := K)) (by rfl) T.isinstance (by decide +kernel) (pa_cons (pv 1) (pa_cons (pe_bltn (v := .ty "str") (by rfl) T.str (by decide +kernel) rfl) pa_nil))))) (pw_or1 (pt_cmp (pc_dnotin hu (pv 1) (kFld (K := K) (pv 0) rfl)) (by rfl))))) (pss_one ps_never) pss_nil)
    (pss_one (ps_ret (pe_dget hu (kFld (K := K) (pv 0) rfl) (pv 1) (fun _ _ => rfl))))), ?_⟩
  have a : At O H [some (stD S W m s), some (.str p)] none (L2.start N_S_is_dark vs) H := At.begin_ (N := N_S_is_dark) hm
  obtain ⟨b, hb⟩ := look_some hp
  have e : darkF m p = b := by unfold darkF; rw [hb]; rfl
  rw [e] at k
  refine s_seq (s_if (b := false) hd ((et_or (et_not (et_B (ev_cb (ea_cons (ev_var rfl) (ea_cons ev_ty ea_nil)) (cd_isi (r := true) rfl (by decide +kernel))))) (fun _ => et_B (ev_dnotin (ev_var rfl) (ev_sf T (ev_var rfl) s_rooms)))).is ?_).up (fun z => nomatch z) (fun _ σ H1 a => ?_) a)
  · rw [val_bl hb]
    rfl
  · exact s_ret hd (ev_dget (ev_sf T (ev_var rfl) s_rooms) (ev_var rfl) (val_bl hb)).up k a
abbrev N_S_all_things : List Str := ["self"]
theorem sc_S_all_things : FnScope N_S_all_things ["self"] (defScope s_S_all_things) := ⟨rfl, rfl, rfl, by decide +kernel, rfl, by decide +kernel, by decide +kernel⟩
theorem d_S_all_things {P : Program} {w : World} {K : PySem.W.Frag} {mg : Str → Option Value} {base : Heap} {S W : Addr} {f : Addr} {fd : FuncData} (F : FunW K "all_things" "State.all_things" s_S_all_things f fd) (T : Txt K mg S W) : FnOk P w K mg base CX0 1 f fd ["self"] (SpN (F_all S W)) := by
  refine F.ok sc_S_all_things (SpN.len (by rintro ds d ⟨m, s, wf, rfl, rfl⟩; rfl)) (fun cdv A outer s0 H vs Q E hr h => ?_)
  have hu := hu_of hr
  obtain ⟨O, ds, d, hd, hm, ⟨m, s, wf, rfl, rfl⟩, k⟩ := h
  refine ⟨_, PSs.nox (pss_one (ps_ret (pe_callTy (call_list_dR rfl) (by rfl) T.list (by decide +kernel) (pa_cons (kFld (K := K) (pv 0) rfl) pa_nil)))), ?_⟩
  have a : At O H [some (stD S W m s)] none (L2.start N_S_all_things vs) H := At.begin_ (N := N_S_all_things) hm
  refine s_retN hd ((en_cb (ea_cons (ev_sf T (ev_var rfl) s_rows) ea_nil) cn_listD).is ?_) k a
  rw [rows_keys]
abbrev N_S_here : List Str := ["self"]
theorem sc_S_here : FnScope N_S_here ["self"] (defScope s_S_here) := ⟨rfl, rfl, rfl, by decide +kernel, rfl, by decide +kernel, by decide +kernel⟩
theorem d_S_here {P : Program} {w : World} {K : PySem.W.Frag} {mg : Str → Option Value} {base : Heap} {S W : Addr} {f : Addr} {fd : FuncData} (F : FunW K "here" "State.here" s_S_here f fd) (T : Txt K mg S W) : FnOk P w K mg base CX0 1 f fd ["self"] (SpD (F_here S W)) := by
  refine F.ok sc_S_here (SpD.len (by rintro ds d ⟨m, s, wf, rfl, rfl⟩; rfl)) (fun cdv A outer s0 H vs Q E hr h => ?_)
  have hu := hu_of hr
  obtain ⟨O, ds, d, hd, hm, ⟨m, s, wf, rfl, rfl⟩, k⟩ := h
  refine ⟨_, PSs.nox (pss_one (ps_ret (kFld (K := K) (pv 0) rfl))), ?_⟩
  have a : At O H [some (stD S W m s)] none (L2.start N_S_here vs) H := At.begin_ (N := N_S_here) hm
  exact s_ret hd (ev_sf T (ev_var rfl) s_spot).up k a
abbrev N_S_turn : List Str := ["self"]
theorem sc_S_turn : FnScope N_S_turn ["self"] (defScope s_S_turn) := ⟨rfl, rfl, rfl, by decide +kernel, rfl, by decide +kernel, by decide +kernel⟩
theorem d_S_turn {P : Program} {w : World} {K : PySem.W.Frag} {mg : Str → Option Value} {base : Heap} {S W : Addr} {f : Addr} {fd : FuncData} (F : FunW K "turn" "State.turn" s_S_turn f fd) (T : Txt K mg S W) : FnOk P w K mg base CX0 1 f fd ["self"] (SpD (F_turn S W)) := by
  refine F.ok sc_S_turn (SpD.len (by rintro ds d ⟨m, s, wf, rfl, rfl⟩; rfl)) (fun cdv A outer s0 H vs Q E hr h => ?_)
  have hu := hu_of hr
  obtain ⟨O, ds, d, hd, hm, ⟨m, s, wf, rfl, rfl⟩, k⟩ := h
  refine ⟨_, PSs.nox (pss_one (ps_ret (kFld (K := K) (pv 0) rfl))), ?_⟩
  have a : At O H [some (stD S W m s)] none (L2.start N_S_turn vs) H := At.begin_ (N := N_S_turn) hm
  exact s_ret hd (ev_sf T (ev_var rfl) s_moment).up k a
abbrev N_S_where : List Str := ["self", "thing"]
theorem sc_S_where : FnScope N_S_where ["self", "thing"] (defScope s_S_where) := ⟨rfl, rfl, rfl, by decide +kernel, rfl, by decide +kernel, by decide +kernel⟩
theorem d_S_where {P : Program} {w : World} {K : PySem.W.Frag} {mg : Str → Option Value} {base : Heap} {S W : Addr} {f : Addr} {fd : FuncData} (F : FunW K "where" "State.where" s_S_where f fd) (T : Txt K mg S W)
    (c1 : CalM P w K mg base S "need_thing" 1 ["self", "thing"] (SpD (F_need S W))) : FnOk P w K mg base CX0 2 f fd ["self", "thing"] (SpD (F_where S W)) := by
  obtain ⟨_, _, G1, M1, B1⟩ := c1.ex
  refine F.ok sc_S_where (SpD.len (by rintro ds d ⟨m, s, x, wf, rfl, hx, rfl⟩; rfl)) (fun cdv A outer s0 H vs Q E hr h => ?_)
  have hu := hu_of hr
  obtain ⟨O, ds, d, hd, hm, ⟨m, s, x, wf, rfl, hx, rfl⟩, k⟩ := h
  refine ⟨_, PSs.nox (pss_cons (ps_expr (pe_meth (pv 0) T.clS M1 G1 (hr.mono (by decide)) B1 .nil pass0 (pa_cons (pv 1) pa_nil)))
    (pss_one (ps_ret (pe_dget hu (kFld (K := K) (pv 0) rfl) (pv 1) (fun _ _ => rfl))))), ?_⟩
  have a : At O H [some (stD S W m s), some (.str x)] none (L2.start N_S_where vs) H := At.begin_ (N := N_S_where) hm
  refine s_seq (s_drop hd (ev_meth (fs := sfs W m s) (ev_var rfl) (s_no (by decide +kernel)) (ea_cons (ev_var rfl) ea_nil) ⟨m, s, x, wf, rfl, hx, rfl⟩).up (fun σ H1 a => ?_) a)
  exact s_ret hd (ev_dget (ev_sf T (ev_var rfl) s_wheres) (ev_var rfl) (val_wh (wf.whF hx))).up k a
abbrev N_S_is_open : List Str := ["self", "thing"]
theorem sc_S_is_open : FnScope N_S_is_open ["self", "thing"] (defScope s_S_is_open) := ⟨rfl, rfl, rfl, by decide +kernel, rfl, by decide +kernel, by decide +kernel⟩
theorem d_S_is_open {P : Program} {w : World} {K : PySem.W.Frag} {mg : Str → Option Value} {base : Heap} {S W : Addr} {f : Addr} {fd : FuncData} (F : FunW K "is_open" "State.is_open" s_S_is_open f fd) (T : Txt K mg S W)
    (c1 : CalM P w K mg base S "need_thing" 1 ["self", "thing"] (SpD (F_need S W))) : FnOk P w K mg base CX0 2 f fd ["self", "thing"] (SpD (F_isopen S W)) := by
  obtain ⟨_, _, G1, M1, B1⟩ := c1.ex
  refine F.ok sc_S_is_open (SpD.len (by rintro ds d ⟨m, s, x, wf, rfl, hx, rfl⟩; rfl)) (fun cdv A outer s0 H vs Q E hr h => ?_)
  have hu := hu_of hr
  obtain ⟨O, ds, d, hd, hm, ⟨m, s, x, wf, rfl, hx, rfl⟩, k⟩ := h
  refine ⟨_, PSs.nox (pss_cons (ps_expr (pe_meth (pv 0) T.clS M1 G1 (hr.mono (by decide)) B1 .nil pass0 (pa_cons (pv 1) pa_nil)))
    (pss_one (ps_ret (pe_dget2 hu (kFld (K := K) (pv 0) rfl) (pv 1) pe_bl ⟨by rfl, by rfl, by rfl, by rfl⟩)))), ?_⟩
  have a : At O H [some (stD S W m s), some (.str x)] none (L2.start N_S_is_open vs) H := At.begin_ (N := N_S_is_open) hm
  refine s_seq (s_drop hd (ev_meth (fs := sfs W m s) (ev_var rfl) (s_no (by decide +kernel)) (ea_cons (ev_var rfl) ea_nil) ⟨m, s, x, wf, rfl, hx, rfl⟩).up (fun σ H1 a => ?_) a)
  refine s_ret hd (ev_dget2 (ev_sf T (ev_var rfl) s_lids) (ev_var rfl) ev_bl ?_).up k a
  unfold opn blsD
  rw [valD_map D.bl]
  cases look s.ops x <;> rfl
abbrev N_S_is_worn : List Str := ["self", "thing"]
theorem sc_S_is_worn : FnScope N_S_is_worn ["self", "thing"] (defScope s_S_is_worn) := ⟨rfl, rfl, rfl, by decide +kernel, rfl, by decide +kernel, by decide +kernel⟩
theorem d_S_is_worn {P : Program} {w : World} {K : PySem.W.Frag} {mg : Str → Option Value} {base : Heap} {S W : Addr} {f : Addr} {fd : FuncData} (F : FunW K "is_worn" "State.is_worn" s_S_is_worn f fd) (T : Txt K mg S W)
    (c1 : CalM P w K mg base S "need_thing" 1 ["self", "thing"] (SpD (F_need S W))) : FnOk P w K mg base CX0 2 f fd ["self", "thing"] (SpD (F_isworn S W)) := by
  obtain ⟨_, _, G1, M1, B1⟩ := c1.ex
  refine F.ok sc_S_is_worn (SpD.len (by rintro ds d ⟨m, s, x, wf, rfl, hx, rfl⟩; rfl)) (fun cdv A outer s0 H vs Q E hr h => ?_)
  have hu := hu_of hr
  obtain ⟨O, ds, d, hd, hm, ⟨m, s, x, wf, rfl, hx, rfl⟩, k⟩ := h
  refine ⟨_, PSs.nox (pss_cons (ps_expr (pe_meth (pv 0) T.clS M1 G1 (hr.mono (by decide)) B1 .nil pass0 (pa_cons (pv 1) pa_nil)))
    (pss_one (ps_ret (pe_dget hu (kFld (K := K) (pv 0) rfl) (pv 1) (fun _ _ => rfl))))), ?_⟩
  have a : At O H [some (stD S W m s), some (.str x)] none (L2.start N_S_is_worn vs) H := At.begin_ (N := N_S_is_worn) hm
  refine s_seq (s_drop hd (ev_meth (fs := sfs W m s) (ev_var rfl) (s_no (by decide +kernel)) (ea_cons (ev_var rfl) ea_nil) ⟨m, s, x, wf, rfl, hx, rfl⟩).up (fun σ H1 a => ?_) a)
  exact s_ret hd (ev_dget (ev_sf T (ev_var rfl) s_dressed) (ev_var rfl) (val_worn wf hx)).up k a
abbrev N_S_number_of : List Str := ["self", "name"]
theorem sc_S_number_of : FnScope N_S_number_of ["self", "name"] (defScope s_S_number_of) := ⟨rfl, rfl, rfl, by decide +kernel, rfl, by decide +kernel, by decide +kernel⟩
theorem d_S_number_of {P : Program} {w : World} {K : PySem.W.Frag} {mg : Str → Option Value} {base : Heap} {S W : Addr} {f : Addr} {fd : FuncData} (F : FunW K "number_of" "State.number_of" s_S_number_of f fd) (T : Txt K mg S W) : FnOk P w K mg base CX0 1 f fd ["self", "name"] (SpD (F_num S W)) := by
  refine F.ok sc_S_number_of (SpD.len (by rintro ds d ⟨m, s, x, n, wf, rfl, hx, rfl⟩; rfl)) (fun cdv A outer s0 H vs Q E hr h => ?_)
  have hu := hu_of hr
  obtain ⟨O, ds, d, hd, hm, ⟨m, s, x, n, wf, rfl, hx, rfl⟩, k⟩ := h
  refine ⟨_, PSs.nox (pss_cons (ps_if (PW.pt (pw_or (pt_not (pt_val (pe_callB (kIsi (K := K)) (by rfl) T.isinstance (by decide +kernel) (pa_cons (pv 1) (pa_cons (pe_bltn (v := .ty "str") (by rfl) T.str (by decide +kernel) rfl) pa_nil))))) (pw_or1 (pt_cmp (pc_dnotin hu (pv 1) (kFld (K := K) (pv 0) rfl)) (by rfl))))) (pss_one ps_never) pss_nil)
    (pss_one (ps_ret (pe_dget hu (kFld (K := K) (pv 0) rfl) (pv 1) (fun _ _ => rfl))))), ?_⟩
  have a : At O H [some (stD S W m s), some (.str x)] none (L2.start N_S_number_of vs) H := At.begin_ (N := N_S_number_of) hm
  refine s_seq (s_if (b := false) hd ((et_or (et_not (et_B (ev_cb (ea_cons (ev_var rfl) (ea_cons ev_ty ea_nil)) (cd_isi (r := true) rfl (by decide +kernel))))) (fun _ => et_B (ev_dnotin (ev_var rfl) (ev_sf T (ev_var rfl) s_counts)))).is ?_).up (fun z => nomatch z) (fun _ σ H1 a => ?_) a)
  · rw [val_num hx]
    rfl
  · exact s_ret hd (ev_dget (ev_sf T (ev_var rfl) s_counts) (ev_var rfl) (val_num hx)).up k a
abbrev N_S_holder_has : List Str := ["self", "thing", "trait"]
theorem sc_S_holder_has : FnScope N_S_holder_has ["self", "thing", "trait"] (defScope s_S_holder_has) := ⟨rfl, rfl, rfl, by decide +kernel, rfl, by decide +kernel, by decide +kernel⟩
theorem d_S_holder_has {P : Program} {w : World} {K : PySem.W.Frag} {mg : Str → Option Value} {base : Heap} {S W : Addr} {f : Addr} {fd : FuncData} (F : FunW K "holder_has" "State.holder_has" s_S_holder_has f fd) (T : Txt K mg S W) : FnOk P w K mg base CX0 1 f fd ["self", "thing", "trait"] (SpD (F_hhas S W)) := by
  refine F.ok sc_S_holder_has (SpD.len (by rintro ds d ⟨m, s, x, tr, wf, rfl, hx, rfl⟩; rfl)) (fun cdv A outer s0 H vs Q E hr h => ?_)
  have hu := hu_of hr
  obtain ⟨O, ds, d, hd, hm, ⟨m, s, x, tr, wf, rfl, hx, rfl⟩, k⟩ := h
  refine ⟨_, PSs.nox (pss_one (ps_ret (pe_and (pe_callB (kIsi (K := K)) (by rfl) T.isinstance (by decide +kernel) (pa_cons (pv 1) (pa_cons (pe_bltn (v := .ty "str") (by rfl) T.str (by decide +kernel) rfl) pa_nil))) (pe_and (pe_cmp (pc_din hu (pv 1) (kFld (K := K) (pv 0) rfl)) (by rfl)) (pe_one (pe_cmpR (kIn (K := K)) (pv 2) (pe_ix (kIxT (K := K)) (pe_dget hu (kFld (K := K) (pv 0) rfl) (pv 1) (fun _ _ => rfl)) pe_int (fun _ _ => rfl)) (by rfl))))))), ?_⟩
  have a : At O H [some (stD S W m s), some (.str x), some (.str tr)] none (L2.start N_S_holder_has vs) H := At.begin_ (N := N_S_holder_has) hm
  obtain ⟨t, ht, e⟩ := thgF hx tr
  rw [e] at k
  refine s_ret hd ((ev_andV (ev_cb (ea_cons (ev_var rfl) (ea_cons ev_ty ea_nil)) (cd_isi (r := true) rfl (by decide +kernel))) (fun _ => ev_andV (ev_din (ev_var rfl) (ev_sf T (ev_var rfl) s_rows)) (fun _ => ev_op (ev_var rfl) (ev_op (ev_dget (ev_sf T (ev_var rfl) s_rows) (ev_var rfl) (val_row ht)) ev_int (rd_ixT (i := 4) rfl)) rd_inT))).is ?_).up k a
  rw [val_row ht]
  rfl
abbrev N_S_doors_of : List Str := ["self", "place", "doors", "thing", "one", "direction", "other", "door"]
theorem sc_S_doors_of : FnScope N_S_doors_of ["self", "place"] (defScope s_S_doors_of) := ⟨rfl, rfl, rfl, by decide +kernel, rfl, by decide +kernel, by decide +kernel⟩
theorem d_S_doors_of {P : Program} {w : World} {K : PySem.W.Frag} {mg : Str → Option Value} {base : Heap} {S W : Addr} {f : Addr} {fd : FuncData} (F : FunW K "doors_of" "State.doors_of" s_S_doors_of f fd) (T : Txt K mg S W)
    (c1 : CalM P w K mg base S "is_dark" 1 ["self", "place"] (SpD (F_dark S W))) : FnOk P w K mg base CX0 2 f fd ["self", "place"] (SpN (F_doors S W)) := by
  obtain ⟨_, _, G1, M1, B1⟩ := c1.ex
  refine F.ok sc_S_doors_of (SpN.len (by rintro ds d ⟨m, s, p, wf, rfl, hp, rfl⟩; rfl)) (fun cdv A outer s0 H vs Q E hr h => ?_)
  have hu := hu_of hr
  obtain ⟨O, ds, d, hd, hm, ⟨m, s, p, wf, rfl, hp, rfl⟩, k⟩ := h
  refine ⟨_, PSs.nox (pss_cons (ps_expr (pe_meth (pv 0) T.clS M1 G1 (hr.mono (by decide)) B1 .nil pass0 (pa_cons (pv 1) pa_nil)))
    (pss_cons (ps_set (i := 2) sc_S_doors_of.nd rfl (Or.inr rfl) (pe_lc (own := [("one", 4), ("direction", 5), ("other", 6), ("door", 7)]) (g := (gTup K 4 (gCons (gName 4) (gCons (gName 5) (gCons (gName 6) (gCons (gName 7) gNil)))))) rfl sc_S_doors_of.nd (kList (K := K) (kFld (K := K) (pv 0) rfl)) (blkOk_by (own := [("one", 4), ("direction", 5), ("other", 6), ("door", 7)]) (N := N_S_doors_of) (sc := defScope s_S_doors_of) (by decide +kernel)) (fun _ _ _ _ _ => (kTupG (K := K) (by rfl) (pgs_cons (pg_name (i := 4) sc_S_doors_of.nd rfl (Or.inl rfl)) (pgs_cons (pg_name (i := 5) sc_S_doors_of.nd rfl (Or.inl rfl)) (pgs_cons (pg_name (i := 6) sc_S_doors_of.nd rfl (Or.inl rfl)) (pgs_cons (pg_name (i := 7) sc_S_doors_of.nd rfl (Or.inl rfl)) pgs_nil)))))) (fun _ _ _ _ _ => (pts_one (pt_cmpR (kIn (K := K)) (pv 1) (pe_tup (pa_cons (pv 4) (pa_cons (pv 6) pa_nil))) (by rfl)))) (fun _ _ _ _ _ => (pv 7))))
    (pss_one (ps_ret (pe_lockO (pe_lc (own := [("thing", 3)]) (g := (gName 3)) rfl sc_S_doors_of.nd (pi_keys (kFld (K := K) (pv 0) rfl)) (blkOk_by (own := [("thing", 3)]) (N := N_S_doors_of) (sc := defScope s_S_doors_of) (by decide +kernel)) (fun _ _ _ _ _ => (pg_name (i := 3) sc_S_doors_of.nd rfl (Or.inl rfl))) (fun _ _ _ _ _ => (pts_one (pt_cmpR (kIn (K := K)) (pv 3) (pv 2) (by rfl)))) (fun _ _ _ _ _ => (pv 3)))))))), ?_⟩
  have a : At O H [some (stD S W m s), some (.str p), none, none, none, none, none, none] none (L2.start N_S_doors_of vs) H := At.begin_ (N := N_S_doors_of) hm
  refine s_seq (s_drop hd (ev_meth (fs := sfs W m s) (ev_var rfl) (s_no (by decide +kernel)) (ea_cons (ev_var rfl) ea_nil) ⟨m, s, p, wf, rfl, hp, rfl⟩).up (fun σ H1 a => ?_) a)
  refine s_seq (s_asg hd (EvN.toD (en_lc Way.d m.ways (fun y ρ => (((ρ.set 4 (some (.str y.src))).set 5 (some (.str y.dir))).set 6 (some (.str y.dst))).set 7 (some (.str y.door))) (fun y => decide (p ∈ [y.src, y.dst])) (fun y => .str y.door) (ev_sf T (ev_var rfl) s_ways) (Nat.lt_of_le_of_lt wf.wm.yl (by decide))
    (fun y _ => tg_tup (tgs_cons tg_name (tgs_cons tg_name (tgs_cons tg_name (tgs_cons tg_name tgs_nil)))) rfl) (fun y _ => et_test (ev_op (ev_var rfl) (ev_tup (ea_cons (ev_var rfl) (ea_cons (ev_var rfl) ea_nil)) (by show 2 ≤ 100000; decide)) (rd_inT (ss := [y.src, y.dst])))) (fun y _ _ => ev_var rfl))).up (by decide) (fun σ H1 a => ?_) a)
  refine s_retN hd ((en_lcK (fun x => decide (x ∈ (m.ways.filter fun y => decide (p ∈ [y.src, y.dst])).map (·.door))) D.str (ep_fld T.clS (nS_of T (by decide +kernel)) (ep_var rfl) s_rows) (Nat.lt_of_le_of_lt (Nat.le_of_eq (rows_len m)) (Nat.lt_of_le_of_lt wf.wm.tl (by decide))) (fun x hx => et_test (ev_op (ev_var rfl) (ev_var (d := .lst (((m.ways.filter fun y => decide (p ∈ [y.src, y.dst])).map (·.door)).map .str)) ?_) rd_inL)) (fun x hx _ => ev_var rfl)).is ?_) k a
  · show some (some (D.lst _)) = _
    rw [List.map_map]
    rfl
  · rw [rows_keys]
    rfl
end Wt

namespace Wt
open PySem PySem.Spec PyProof.Rows L2
abbrev N_holder_chain : List Str := ["state", "thing", "found", "where"]
theorem sc_holder_chain : FnScope N_holder_chain ["state", "thing"] (defScope s_holder_chain) := ⟨rfl, rfl, rfl, by decide +kernel, rfl, by decide +kernel, by decide +kernel⟩
theorem d_holder_chain {P : Program} {w : World} {K : PySem.W.Frag} {mg : Str → Option Value} {base : Heap} {S W : Addr} {f : Addr} {fd : FuncData} (F : FunW K "holder_chain" "holder_chain" s_holder_chain f fd) (T : Txt K mg S W)
    (c1 : CalM P w K mg base S "where" 2 ["self", "thing"] (SpD (F_where S W))) : FnOk P w K mg base CX0 3 f fd ["state", "thing"] (SpN (F_chain S W)) := by
  obtain ⟨_, _, G1, M1, B1⟩ := c1.ex
  refine F.ok sc_holder_chain (SpN.len (by rintro ds d ⟨m, s, x, wf, rfl, hx, rfl⟩; rfl)) (fun cdv A outer s0 H vs Q E hr h => ?_)
  have hu := hu_of hr
  obtain ⟨O, ds, d, hd, hm, ⟨m, s, x, wf, rfl, hx, rfl⟩, k⟩ := h
  refine ⟨_, PSs.nox (pss_cons (ps_set (i := 2) sc_holder_chain.nd rfl (Or.inl rfl) (pe_lst pa_nil))
    (pss_cons (ps_set (i := 3) sc_holder_chain.nd rfl (Or.inl rfl) (pe_meth (pv 0) T.clS M1 G1 (hr.mono (by decide)) B1 .nil pass0 (pa_cons (pv 1) pa_nil)))
    (pss_cons (ps_while PassesOwn.never (pt_cmpR (kIn (K := K)) (pe_ix (kIxT (K := K)) (pv 3) pe_int (fun _ _ => rfl)) (pe_tup (pa_cons pe_str (pa_cons pe_str pa_nil))) (by rfl)) (pss_cons (ps_expr (pe_bm PySem.F.plainAttrs_list PySem.F.slot_list_append PySem.F.type_list_append mt_append (pv 2) (pa_cons (pe_ix (kIxT (K := K)) (pv 3) pe_int (fun _ _ => rfl)) pa_nil)))
    (pss_one (ps_set (i := 3) sc_holder_chain.nd rfl (Or.inl rfl) (pe_meth (pv 0) T.clS M1 G1 (hr.mono (by decide)) B1 .nil pass0 (pa_cons (pe_ix (kIxT (K := K)) (pv 3) pe_int (fun _ _ => rfl)) pa_nil))))))
    (pss_one (ps_ret (pv 2)))))), ?_⟩
  have a : At O H [some (stD S W m s), some (.str x), none, none] none (L2.start N_holder_chain vs) H := At.begin_ (N := N_holder_chain) hm
  obtain ⟨hc, hl⟩ := wf.chain hx
  have hn := wf.chain_in hc
  refine s_seq (s_new hd (en_lst ea_nil (Nat.zero_le _)) (Nat.le_of_ble_eq_true rfl) (fun σ H1 a => ?_) a)
  refine s_seq (s_asg hd (ev_meth (fs := sfs W m s) (ev_var rfl) (s_no (by decide +kernel)) (ea_cons (ev_var rfl) ea_nil) ⟨m, s, x, wf, rfl, hx, rfl⟩).up (by decide) (fun σ H1 a => ?_) a)
  refine s_seq (s_while (chn s x).1.length (fun i => [some (stD S W m s), some (.str x), none, some (wAt (chn s x).1 (rootF s x) i).d]) (fun i => some (2, .L ((((chn s x).1.take i).map (·.2)).map .str))) hd (by rw [wAt_0 hc]; rfl) rfl (fun i hi => ?_) ?_ (fun i hi σ H1 a => ?_) (fun σ H1 a => ?_) a)
  · refine ((et_held (ev_var rfl)).is ?_).up
    rw [wAt_i (List.getElem?_eq_getElem hi)]
    exact isHeld_link _
  · refine ((et_held (ev_var rfl)).is ?_).up
    rw [wAt_n]
    exact hc.root
  · have hp := List.getElem?_eq_getElem hi
    have hpn := hn _ (List.mem_of_getElem? hp)
    have hnx := hc.next hp
    have ew : whF s ((chn s x).1[i]).2 = wAt (chn s x).1 (rootF s x) (i + 1) := by unfold whF; rw [hnx]; rfl
    rw [wAt_i hp] at a
    refine s_seq (s_app hd (ev_arg (p := (chn s x).1[i]) (ev_var rfl)).up ?_ (fun σ H1 a => ?_) a)
    · rw [List.length_map, List.length_map, List.length_take]
      omega
    · refine s_asg hd (ev_meth (fs := sfs W m s) (ev_var rfl) (s_no (by decide +kernel)) (ea_cons (ev_arg (p := (chn s x).1[i]) (ev_var rfl)) ea_nil) ⟨m, s, _, wf, rfl, hpn, rfl⟩).up (by simp [wslot]) (fun σ H1 a => ?_) a
      rw [ew] at a
      rw [List.take_add_one, hp, List.map_append, List.map_append]
      exact a
  · rw [List.take_of_length_le (Nat.le_refl _)] at a
    exact s_retO k a
abbrev N_root_of : List Str := ["state", "thing"]
theorem sc_root_of : FnScope N_root_of ["state", "thing"] (defScope s_root_of) := ⟨rfl, rfl, rfl, by decide +kernel, rfl, by decide +kernel, by decide +kernel⟩
theorem d_root_of {P : Program} {w : World} {K : PySem.W.Frag} {mg : Str → Option Value} {base : Heap} {S W : Addr} {f : Addr} {fd : FuncData} (F : FunW K "root_of" "root_of" s_root_of f fd) (T : Txt K mg S W)
    (c1 : CalM P w K mg base S "where" 2 ["self", "thing"] (SpD (F_where S W)))
    (c2 : CalF P w K mg base "holder_chain" 3 ["state", "thing"] (SpN (F_chain S W))) : FnOk P w K mg base CX0 4 f fd ["state", "thing"] (SpD (F_root S W)) := by
  obtain ⟨_, _, G1, M1, B1⟩ := c1.ex
  obtain ⟨_, _, G2, M2, K2, B2⟩ := c2.ex
  refine F.ok sc_root_of (SpD.len (by rintro ds d ⟨m, s, x, wf, rfl, hx, rfl⟩; rfl)) (fun cdv A outer s0 H vs Q E hr h => ?_)
  have hu := hu_of hr
  obtain ⟨O, ds, d, hd, hm, ⟨m, s, x, wf, rfl, hx, rfl⟩, k⟩ := h
  refine ⟨_, PSs.nox (pss_one (ps_ret (pe_meth (pv 0) T.clS M1 G1 (hr.mono (by decide)) B1 .nil pass0 (pa_cons (pe_ix (kIxL (K := K)) (kOrT (K := K) (pe_call G2 (hr.mono (by decide)) rfl M2 K2 B2 .nil pass0 (pa_cons (pv 0) (pa_cons (pv 1) pa_nil))) (pe_one (pe_lst (pa_cons (pv 1) pa_nil)))) (pe_un un_neg pe_int) (fun _ _ => rfl)) pa_nil)))), ?_⟩
  have a : At O H [some (stD S W m s), some (.str x)] none (L2.start N_root_of vs) H := At.begin_ (N := N_root_of) hm
  obtain ⟨hc, hl⟩ := wf.chain hx
  have hn := wf.chain_in hc
  have key : ∃ y, (if (chn s x).1 = [] then [x] else (chn s x).1.map (·.2)).getLast? = some y ∧ y ∈ m.names ∧ whF s y = rootF s x := by
    by_cases h : (chn s x).1 = []
    · rw [if_pos h]
      refine ⟨x, rfl, hx, ?_⟩
      have e := wAt_0 hc
      rw [h] at e
      exact e.symm
    · rw [if_neg h]
      cases q : (chn s x).1.getLast? with
      | none => exact absurd (List.getLast?_eq_none_iff.mp q) h
      | some p =>
        obtain ⟨c, e⟩ := List.getLast?_eq_some_iff.mp q
        have hp : (chn s x).1[c.length]? = some p := by rw [e]; simp
        refine ⟨p.2, by rw [List.getLast?_map, q]; rfl, hn p (List.mem_of_getElem? hp), ?_⟩
        have hnx := hc.next hp
        have el : c.length + 1 = (chn s x).1.length := by rw [e]; simp
        rw [el, wAt_n] at hnx
        unfold whF
        rw [hnx]
        rfl
  obtain ⟨y, hy, hyn, hr2⟩ := key
  rw [← hr2] at k
  refine s_ret hd (ev_meth (fs := sfs W m s) (ev_var rfl) (s_no (by decide +kernel)) (ea_cons (ev_op (ev_orL (ds := ((chn s x).1.map (·.2)).map .str) (d := .lst ((if (chn s x).1 = [] then [x] else (chn s x).1.map (·.2)).map .str)) (EvN.toD (en_call (ea_cons (ev_var rfl) (ea_cons (ev_var rfl) ea_nil)) ⟨m, s, x, wf, rfl, hx, rfl⟩)) (fun h => ?_) (fun h => ?_)) (ev_neg ev_int) (rd_ixL (atI_lst (a := .str y) ?_))) ea_nil) ⟨m, s, y, wf, rfl, hyn, rfl⟩).up k a
  · have h2 : (chn s x).1 = [] := by simpa using h
    rw [if_pos h2]
    exact EvN.toD (en_lst (ea_cons (ev_var rfl) ea_nil) (by show 1 ≤ 100000; decide))
  · have h2 : ¬ (chn s x).1 = [] := fun z => h (by rw [z]; rfl)
    rw [if_neg h2]
  · rw [List.getLast?_map, hy]
    rfl
abbrev N_shut_boxes : List Str := ["state", "thing", "found", "where"]
theorem sc_shut_boxes : FnScope N_shut_boxes ["state", "thing"] (defScope s_shut_boxes) := ⟨rfl, rfl, rfl, by decide +kernel, rfl, by decide +kernel, by decide +kernel⟩
theorem d_shut_boxes {P : Program} {w : World} {K : PySem.W.Frag} {mg : Str → Option Value} {base : Heap} {S W : Addr} {f : Addr} {fd : FuncData} (F : FunW K "shut_boxes" "shut_boxes" s_shut_boxes f fd) (T : Txt K mg S W)
    (c1 : CalM P w K mg base S "where" 2 ["self", "thing"] (SpD (F_where S W)))
    (c2 : CalM P w K mg base S "is_open" 2 ["self", "thing"] (SpD (F_isopen S W))) : FnOk P w K mg base CX0 3 f fd ["state", "thing"] (SpN (F_shut S W)) := by
  obtain ⟨_, _, G1, M1, B1⟩ := c1.ex
  obtain ⟨_, _, G2, M2, B2⟩ := c2.ex
  refine F.ok sc_shut_boxes (SpN.len (by rintro ds d ⟨m, s, x, wf, rfl, hx, rfl⟩; rfl)) (fun cdv A outer s0 H vs Q E hr h => ?_)
  have hu := hu_of hr
  obtain ⟨O, ds, d, hd, hm, ⟨m, s, x, wf, rfl, hx, rfl⟩, k⟩ := h
  refine ⟨_, PSs.nox (pss_cons (ps_set (i := 2) sc_shut_boxes.nd rfl (Or.inl rfl) (pe_lst pa_nil))
    (pss_cons (ps_set (i := 3) sc_shut_boxes.nd rfl (Or.inl rfl) (pe_meth (pv 0) T.clS M1 G1 (hr.mono (by decide)) B1 .nil pass0 (pa_cons (pv 1) pa_nil)))
    (pss_cons (ps_while PassesOwn.never (pt_cmpR (kIn (K := K)) (pe_ix (kIxT (K := K)) (pv 3) pe_int (fun _ _ => rfl)) (pe_tup (pa_cons pe_str (pa_cons pe_str pa_nil))) (by rfl)) (pss_cons (ps_if (PW.pt (pw_and (pt_cmpR op_eq (pe_ix (kIxT (K := K)) (pv 3) pe_int (fun _ _ => rfl)) pe_str (by rfl)) (pw_and1 (pt_not (pt_val (pe_meth (pv 0) T.clS M2 G2 (hr.mono (by decide)) B2 .nil pass0 (pa_cons (pe_ix (kIxT (K := K)) (pv 3) pe_int (fun _ _ => rfl)) pa_nil))))))) (pss_one (ps_expr (pe_bm PySem.F.plainAttrs_list PySem.F.slot_list_append PySem.F.type_list_append mt_append (pv 2) (pa_cons (pe_ix (kIxT (K := K)) (pv 3) pe_int (fun _ _ => rfl)) pa_nil)))) pss_nil)
    (pss_one (ps_set (i := 3) sc_shut_boxes.nd rfl (Or.inl rfl) (pe_meth (pv 0) T.clS M1 G1 (hr.mono (by decide)) B1 .nil pass0 (pa_cons (pe_ix (kIxT (K := K)) (pv 3) pe_int (fun _ _ => rfl)) pa_nil))))))
    (pss_one (ps_ret (pv 2)))))), ?_⟩
  have a : At O H [some (stD S W m s), some (.str x), none, none] none (L2.start N_shut_boxes vs) H := At.begin_ (N := N_shut_boxes) hm
  obtain ⟨hc, hl⟩ := wf.chain hx
  have hn := wf.chain_in hc
  refine s_seq (s_new hd (en_lst ea_nil (Nat.zero_le _)) (Nat.le_of_ble_eq_true rfl) (fun σ H1 a => ?_) a)
  refine s_seq (s_asg hd (ev_meth (fs := sfs W m s) (ev_var rfl) (s_no (by decide +kernel)) (ea_cons (ev_var rfl) ea_nil) ⟨m, s, x, wf, rfl, hx, rfl⟩).up (by decide) (fun σ H1 a => ?_) a)
  refine s_seq (s_while (chn s x).1.length (fun i => [some (stD S W m s), some (.str x), none, some (wAt (chn s x).1 (rootF s x) i).d]) (fun i => some (2, .L (((((chn s x).1.take i).filter fun p => p.1 && !opn s p.2).map (·.2)).map .str))) hd (by rw [wAt_0 hc]; rfl) rfl (fun i hi => ?_) ?_ (fun i hi σ H1 a => ?_) (fun σ H1 a => ?_) a)
  · refine ((et_held (ev_var rfl)).is ?_).up
    rw [wAt_i (List.getElem?_eq_getElem hi)]
    exact isHeld_link _
  · refine ((et_held (ev_var rfl)).is ?_).up
    rw [wAt_n]
    exact hc.root
  · have hp := List.getElem?_eq_getElem hi
    have hpn := hn _ (List.mem_of_getElem? hp)
    have hnx := hc.next hp
    have ew : whF s ((chn s x).1[i]).2 = wAt (chn s x).1 (rootF s x) (i + 1) := by unfold whF; rw [hnx]; rfl
    have ft := filter_take (fun p : Bool × Str => p.1 && !opn s p.2) (chn s x).1 hp
    have ei : isIn (linkW (chn s x).1[i]) = ((chn s x).1[i]).1 := by unfold linkW; cases ((chn s x).1[i]).1 <;> rfl
    rw [wAt_i hp] at a
    refine s_seq (s_ifJ (b := ((chn s x).1[i]).1 && !opn s ((chn s x).1[i]).2) (ρ' := [some (stD S W m s), some (.str x), none, some (linkW (chn s x).1[i]).d]) (wn' := some (2, .L (((((chn s x).1.take (i + 1)).filter fun p => p.1 && !opn s p.2).map (·.2)).map .str))) hd ?_ (fun hb kk σ H1 a => ?_) (fun hb kk σ H1 a => ?_) (fun σ H1 a => ?_) a)
    · rw [← ei]
      exact (et_and (et_isin (ev_var rfl)) (fun _ => et_not (et_B (ev_meth (fs := sfs W m s) (ev_var rfl) (s_no (by decide +kernel)) (ea_cons (ev_arg (p := (chn s x).1[i]) (ev_var rfl)) ea_nil) ⟨m, s, _, wf, rfl, hpn, rfl⟩)))).up
    · refine s_app hd (ev_arg (p := (chn s x).1[i]) (ev_var rfl)).up ?_ (fun σ H1 a => kk σ H1 ?_) a
      · rw [List.length_map, List.length_map]
        exact Nat.lt_of_le_of_lt (List.length_filter_le ..) (by rw [List.length_take]; omega)
      · rw [ft, if_pos hb, List.map_append, List.map_append]
        exact a
    · refine kk σ H1 ?_
      rw [ft, if_neg (by rw [hb]; decide), List.append_nil]
      exact a
    · refine s_asg hd (ev_meth (fs := sfs W m s) (ev_var rfl) (s_no (by decide +kernel)) (ea_cons (ev_arg (p := (chn s x).1[i]) (ev_var rfl)) ea_nil) ⟨m, s, _, wf, rfl, hpn, rfl⟩).up (by simp [wslot]) (fun σ H1 a => ?_) a
      rw [ew] at a
      exact a
  · rw [List.take_of_length_le (Nat.le_refl _)] at a
    exact s_retO k a
abbrev N_is_hidden : List Str := ["state", "thing", "box"]
theorem sc_is_hidden : FnScope N_is_hidden ["state", "thing"] (defScope s_is_hidden) := ⟨rfl, rfl, rfl, by decide +kernel, rfl, by decide +kernel, by decide +kernel⟩
theorem d_is_hidden {P : Program} {w : World} {K : PySem.W.Frag} {mg : Str → Option Value} {base : Heap} {S W : Addr} {f : Addr} {fd : FuncData} (F : FunW K "is_hidden" "is_hidden" s_is_hidden f fd) (T : Txt K mg S W)
    (c1 : CalF P w K mg base "shut_boxes" 3 ["state", "thing"] (SpN (F_shut S W)))
    (c2 : CalM P w K mg base S "has_trait" 2 ["self", "thing", "trait"] (SpD (F_has S W))) : FnOk P w K mg base CX0 4 f fd ["state", "thing"] (SpD (F_hid S W)) := by
  obtain ⟨_, _, G1, M1, K1, B1⟩ := c1.ex
  obtain ⟨_, _, G2, M2, B2⟩ := c2.ex
  refine F.ok sc_is_hidden (SpD.len (by rintro ds d ⟨m, s, x, wf, rfl, hx, rfl⟩; rfl)) (fun cdv A outer s0 H vs Q E hr h => ?_)
  have hu := hu_of hr
  obtain ⟨O, ds, d, hd, hm, ⟨m, s, x, wf, rfl, hx, rfl⟩, k⟩ := h
  refine ⟨_, PSs.nox (pss_one (ps_ret (pe_callB (kAny (K := K) rfl) (by rfl) T.any (by decide +kernel) (pa_cons (pe_lc (own := [("box", 2)]) (g := (gName 2)) (tt := tYes) rfl sc_is_hidden.nd (kList (K := K) (pe_call G1 (hr.mono (by decide)) rfl M1 K1 B1 .nil pass0 (pa_cons (pv 0) (pa_cons (pv 1) pa_nil)))) (blkOk_by (own := [("box", 2)]) (N := N_is_hidden) (sc := defScope s_is_hidden) (by decide +kernel)) (fun _ _ _ _ _ => (pg_name (i := 2) sc_is_hidden.nd rfl (Or.inl rfl))) (fun _ _ _ _ _ => pts_nil) (fun _ _ _ _ _ => (pe_not (pe_meth (pv 0) T.clS M2 G2 (hr.mono (by decide)) B2 .nil pass0 (pa_cons (pv 2) (pa_cons pe_str pa_nil)))))) pa_nil)))), ?_⟩
  have a : At O H [some (stD S W m s), some (.str x), none] none (L2.start N_is_hidden vs) H := At.begin_ (N := N_is_hidden) hm
  obtain ⟨hc, hl⟩ := wf.chain hx
  have hn := wf.chain_in hc
  have hs : ∀ b, b ∈ shutF s x → b ∈ m.names := fun b hb => by
    obtain ⟨p, hp, e⟩ := List.mem_map.mp hb
    rw [← e]
    exact hn p (List.mem_filter.mp hp).1
  have hsl : (shutF s x).length ≤ 12 := by
    unfold shutF
    rw [List.length_map]
    exact Nat.le_trans (List.length_filter_le ..) hl
  refine s_ret hd (ev_cb (ea_cons ((EvN.toD (en_map D.str (shutF s x) (fun b ρ => ρ.set 2 (some (.str b))) (fun b => .bl (!hasT m b "clear")) (EvN.toD (en_call (ea_cons (ev_var rfl) (ea_cons (ev_var rfl) ea_nil)) ⟨m, s, x, wf, rfl, hx, rfl⟩)) (Nat.lt_of_le_of_lt hsl (by decide)) (fun _ _ => tg_name) (fun b hb => ?_))).is ?_) ea_nil) (cd_any (bs := (shutF s x).map fun b => !hasT m b "clear"))).up k a
  · exact ev_notV (ev_meth (fs := sfs W m s) (ev_var rfl) (s_no (by decide +kernel)) (ea_cons (ev_var rfl) (ea_cons ev_str ea_nil)) ⟨m, s, b, _, wf, rfl, hs b hb, rfl⟩)
  · rw [List.map_map]
    rfl
abbrev N_doors_at : List Str := ["state", "place"]
theorem sc_doors_at : FnScope N_doors_at ["state", "place"] (defScope s_doors_at) := ⟨rfl, rfl, rfl, by decide +kernel, rfl, by decide +kernel, by decide +kernel⟩
theorem d_doors_at {P : Program} {w : World} {K : PySem.W.Frag} {mg : Str → Option Value} {base : Heap} {S W : Addr} {f : Addr} {fd : FuncData} (F : FunW K "doors_at" "doors_at" s_doors_at f fd) (T : Txt K mg S W)
    (c1 : CalM P w K mg base S "doors_of" 2 ["self", "place"] (SpN (F_doors S W))) : FnOk P w K mg base CX0 3 f fd ["state", "place"] (SpN (F_doors S W)) := by
  obtain ⟨_, _, G1, M1, B1⟩ := c1.ex
  refine F.ok sc_doors_at (SpN.len (by rintro ds d ⟨m, s, p, wf, rfl, hp, rfl⟩; rfl)) (fun cdv A outer s0 H vs Q E hr h => ?_)
  have hu := hu_of hr
  obtain ⟨O, ds, d, hd, hm, ⟨m, s, p, wf, rfl, hp, rfl⟩, k⟩ := h
  refine ⟨_, PSs.nox (pss_one (ps_ret (pe_meth (pv 0) T.clS M1 G1 (hr.mono (by decide)) B1 .nil pass0 (pa_cons (pv 1) pa_nil)))), ?_⟩
  have a : At O H [some (stD S W m s), some (.str p)] none (L2.start N_doors_at vs) H := At.begin_ (N := N_doors_at) hm
  exact s_retN hd (en_meth (fs := sfs W m s) (ev_var rfl) (s_no (by decide +kernel)) (ea_cons (ev_var rfl) ea_nil) ⟨m, s, p, wf, rfl, hp, rfl⟩) k a
abbrev N_is_lit : List Str := ["state", "place", "roots", "doors", "thing"]
theorem sc_is_lit : FnScope N_is_lit ["state", "place"] (defScope s_is_lit) := ⟨rfl, rfl, rfl, by decide +kernel, rfl, by decide +kernel, by decide +kernel⟩
theorem d_is_lit {P : Program} {w : World} {K : PySem.W.Frag} {mg : Str → Option Value} {base : Heap} {S W : Addr} {f : Addr} {fd : FuncData} (F : FunW K "is_lit" "is_lit" s_is_lit f fd) (T : Txt K mg S W)
    (c1 : CalM P w K mg base S "is_dark" 1 ["self", "place"] (SpD (F_dark S W)))
    (c2 : CalM P w K mg base S "here" 1 ["self"] (SpD (F_here S W)))
    (c3 : CalM P w K mg base S "doors_of" 2 ["self", "place"] (SpN (F_doors S W)))
    (c4 : CalM P w K mg base S "all_things" 1 ["self"] (SpN (F_all S W)))
    (c5 : CalF P w K mg base "is_hidden" 4 ["state", "thing"] (SpD (F_hid S W)))
    (c6 : CalM P w K mg base S "has_trait" 2 ["self", "thing", "trait"] (SpD (F_has S W)))
    (c7 : CalF P w K mg base "root_of" 4 ["state", "thing"] (SpD (F_root S W))) : FnOk P w K mg base CX0 5 f fd ["state", "place"] (SpD (F_lit S W)) := by
  obtain ⟨_, _, G1, M1, B1⟩ := c1.ex
  obtain ⟨_, _, G2, M2, B2⟩ := c2.ex
  obtain ⟨_, _, G3, M3, B3⟩ := c3.ex
  obtain ⟨_, _, G4, M4, B4⟩ := c4.ex
  obtain ⟨_, _, G5, M5, K5, B5⟩ := c5.ex
  obtain ⟨_, _, G6, M6, B6⟩ := c6.ex
  obtain ⟨_, _, G7, M7, K7, B7⟩ := c7.ex
  refine F.ok sc_is_lit (SpD.len (by rintro ds d ⟨m, s, p, wf, rfl, hp, rfl⟩; rfl)) (fun cdv A outer s0 H vs Q E hr h => ?_)
  have hu := hu_of hr
  have hu65 : (A.deeper (envOfC "is_lit" (defScope s_is_lit) s0.heap.objs.size f cdv)).units + 65 < cLine := by have := hr.un; omega
  obtain ⟨O, ds, d, hd, hm, ⟨m, s, p, wf, rfl, hp, rfl⟩, k⟩ := h
  refine ⟨_, PSs.nox (pss_cons (ps_if (pt_not (pt_val (pe_meth (pv 0) T.clS M1 G1 (hr.mono (by decide)) B1 .nil pass0 (pa_cons (pv 1) pa_nil)))) (pss_one (ps_ret pe_bl)) pss_nil)
    (pss_cons (ps_set (i := 2) sc_is_lit.nd rfl (Or.inl rfl) (pe_lst (pa_cons (pe_tup (pa_cons pe_str (pa_cons (pv 1) pa_nil))) pa_nil)))
    (pss_cons (ps_if (pt_cmpR op_eq (pe_meth0 (pv 0) T.clS M2 G2 (hr.mono (by decide)) B2 .nil pass0) (pv 1) (by rfl)) (pss_one (ps_expr (pe_bm PySem.F.plainAttrs_list PySem.F.slot_list_append PySem.F.type_list_append mt_append (pv 2) (pa_cons (pe_tup (pa_cons pe_str pa_nil)) pa_nil)))) pss_nil)
    (pss_cons (ps_set (i := 3) sc_is_lit.nd rfl (Or.inl rfl) (pe_meth (pv 0) T.clS M3 G3 (hr.mono (by decide)) B3 .nil pass0 (pa_cons (pv 1) pa_nil)))
    (pss_cons (ps_for PassesOwn.never rfl (kList (K := K) (pe_meth0 (pv 0) T.clS M4 G4 (hr.mono (by decide)) B4 .nil pass0)) (pg_name (i := 4) sc_is_lit.nd rfl (Or.inl rfl)) (pss_one (ps_if (PW.pt (pw_and (pt_val (pe_meth (pv 0) T.clS M6 G6 (hr.mono (by decide)) B6 .nil pass0 (pa_cons (pv 4) (pa_cons pe_str pa_nil)))) (pw_and1 (pt_not (pt_val (pe_call G5 (hr.mono (by decide)) rfl M5 K5 B5 .nil pass0 (pa_cons (pv 0) (pa_cons (pv 4) pa_nil)))))))) (pss_one (ps_if (PW.pt (pw_or (pt_cmpR (kIn (K := K)) (pv 4) (pv 3) (by rfl)) (pw_or1 (pt_cmpR (kInD (K := K) hu65) (pe_call G7 (hr.mono (by decide)) rfl M7 K7 B7 .nil pass0 (pa_cons (pv 0) (pa_cons (pv 4) pa_nil))) (pv 2) (by rfl))))) (pss_one (ps_ret pe_bl)) pss_nil)) pss_nil)))
    (pss_one (ps_ret pe_bl))))))), ?_⟩
  have a : At O H [some (stD S W m s), some (.str p), none, none, none] none (L2.start N_is_lit vs) H := At.begin_ (N := N_is_lit) hm
  have rok : ∀ w, w ∈ rootsL s p → w.ok = true := fun w hw => by
    unfold rootsL at hw
    rcases List.mem_cons.mp hw with e | hw
    · rw [e]
      exact wf.wm.placeOk hp
    · by_cases h : s.here = p
      · rw [if_pos h] at hw
        rw [List.mem_singleton.mp hw]
        rfl
      · rw [if_neg h] at hw
        cases hw
  refine s_seq (s_if (b := !darkF m p) hd (et_not (et_B (ev_meth (fs := sfs W m s) (ev_var rfl) (s_no (by decide +kernel)) (ea_cons (ev_var rfl) ea_nil) ⟨m, s, p, wf, rfl, hp, rfl⟩))).up (fun hb σ H1 a => ?_) (fun hb σ H1 a => ?_) a)
  · have e : litF m s p = true := by unfold litF; rw [hb, Bool.true_or]
    rw [e] at k
    exact s_ret hd ev_bl.up k a
  have el : litF m s p = m.names.any (litX m s p) := by unfold litF; rw [hb, Bool.false_or]
  rw [el] at k
  refine s_seq (s_new hd (en_lst (ea_cons (ev_at (ev_var rfl)) ea_nil) (by show 1 ≤ 100000; decide)) (Nat.le_of_ble_eq_true rfl) (fun σ H1 a => ?_) a)
  refine s_seq (s_ifJ (b := decide (s.here = p)) (ρ' := [some (stD S W m s), some (.str p), none, none, none]) (wn' := some (2, .L ((rootsL s p).map Wh.d))) hd (et_test (ev_op (ev_meth (fs := sfs W m s) (ev_var rfl) (s_no (by decide +kernel)) ea_nil ⟨m, s, wf, rfl, rfl⟩) (ev_var rfl) rd_eqS)).up (fun hb kk σ H1 a => ?_) (fun hb kk σ H1 a => ?_) (fun σ H1 a => ?_) a)
  · refine s_app hd ev_with.up (by show 1 < 100000; decide) (fun σ H1 a => kk σ H1 ?_) a
    unfold rootsL
    rw [if_pos (of_decide_eq_true hb)]
    exact a
  · refine kk σ H1 ?_
    unfold rootsL
    rw [if_neg (of_decide_eq_false hb)]
    exact a
  have a := a.freeze hd
  refine s_seq (s_asg hd (EvN.toD (en_meth (fs := sfs W m s) (ev_var rfl) (s_no (by decide +kernel)) (ea_cons (ev_var rfl) ea_nil) ⟨m, s, p, wf, rfl, hp, rfl⟩)).up (by decide) (fun σ H1 a => ?_) a)
  refine s_seq (s_for D.str m.names hd (EvN.toD (en_meth (fs := sfs W m s) (ev_var rfl) (s_no (by decide +kernel)) ea_nil ⟨m, s, wf, rfl, rfl⟩)).up (fun _ => [some (stD S W m s), some (.str p), some (.lst ((rootsL s p).map Wh.d)), some (.lst ((doorsF m p).map .str)), none]) (fun _ => none) (fun i => (m.names.take i).any (litX m s p) = false) (fun x ρ => ρ.set 4 (some (.str x))) [4] (fun _ _ => tg_name) (fun n i z => nomatch z) rfl rfl rfl
    (fun Hb sb db i x hi hP σ H1 a => ?_) (fun hP σ H1 a => ?_) a)
  · have hx := List.mem_of_getElem? hi
    have hat := any_take (litX m s p) hi
    have wk : ∀ {σ H1}, At O Hb [some (stD S W m s), some (.str p), some (.lst ((rootsL s p).map Wh.d)), some (.lst ((doorsF m p).map .str)), some (.str x)] none σ H1 → At O Hb [some (stD S W m s), some (.str p), some (.lst ((rootsL s p).map Wh.d)), some (.lst ((doorsF m p).map .str)), none] none σ H1 := fun a => a.weak (.keep (.keep (.keep (.keep (.drop .nil)))))
    have wh := wf.whok (wf.whF hx)
    have rk : (rootF s x).ok = true := by
      obtain ⟨hc, _⟩ := wf.chain hx
      cases e : (chn s x).1.getLast? with
      | none =>
        have h0 := wAt_0 hc
        rw [List.getLast?_eq_none_iff.mp e] at h0
        have h1 : rootF s x = whF s x := h0
        rw [h1]
        exact wh
      | some q =>
        obtain ⟨c, e2⟩ := List.getLast?_eq_some_iff.mp e
        have hq : (chn s x).1[c.length]? = some q := by rw [e2]; simp
        have hnx := hc.next hq
        have el : c.length + 1 = (chn s x).1.length := by rw [e2]; simp
        rw [el, wAt_n] at hnx
        exact wf.whok hnx
    refine s_if (b := hasT m x "lit" && !hidF m s x) db (et_and (et_B (ev_meth (fs := sfs W m s) (ev_var rfl) (s_no (by decide +kernel)) (ea_cons (ev_var rfl) (ea_cons ev_str ea_nil)) ⟨m, s, x, _, wf, rfl, hx, rfl⟩)) (fun _ => et_not (et_B (ev_call (ea_cons (ev_var rfl) (ea_cons (ev_var rfl) ea_nil)) ⟨m, s, x, wf, rfl, hx, rfl⟩)))).up (fun hb σ H1 a => ?_) (fun hb σ H1 a => ⟨?_, wk a⟩) a
    · refine s_if (b := decide (x ∈ doorsF m p) || decide (rootF s x ∈ rootsL s p)) db (et_or (et_test (ev_op (ev_var rfl) (ev_var rfl) rd_inL)) (fun _ => et_test (ev_op (ev_call (ea_cons (ev_var rfl) (ea_cons (ev_var rfl) ea_nil)) ⟨m, s, x, wf, rfl, hx, rfl⟩) (ev_var rfl) (rd_inW rk rok)))).up (fun hb2 σ H1 a => ?_) (fun hb2 σ H1 a => ⟨?_, wk a⟩) a
      · have e : m.names.any (litX m s p) = true := any_of _ hx (by unfold litX; rw [hb, hb2]; rfl)
        rw [e] at k
        exact s_ret db ev_bl.up (fun v H2 s2 m2 => k v H2 (sb.trans s2) m2) a
      · rw [hat, hP]
        unfold litX
        rw [hb2, Bool.and_false]
        rfl
    · rw [hat, hP]
      unfold litX
      rw [hb]
      rfl
  · rw [List.take_of_length_le (Nat.le_refl _)] at hP
    rw [hP] at k
    dsimp only
    exact s_ret hd ev_bl.up k a
end Wt

namespace Wt
open PySem PySem.Spec PyProof.Rows L2
abbrev N_seen_things : List Str := ["state", "place", "roots", "doors", "found", "thing"]
theorem sc_seen_things : FnScope N_seen_things ["state"] (defScope s_seen_things) := ⟨rfl, rfl, rfl, by decide +kernel, rfl, by decide +kernel, by decide +kernel⟩
theorem d_seen_things {P : Program} {w : World} {K : PySem.W.Frag} {mg : Str → Option Value} {base : Heap} {S W : Addr} {f : Addr} {fd : FuncData} (F : FunW K "seen_things" "seen_things" s_seen_things f fd) (T : Txt K mg S W)
    (c1 : CalM P w K mg base S "here" 1 ["self"] (SpD (F_here S W)))
    (c2 : CalF P w K mg base "is_lit" 5 ["state", "place"] (SpD (F_lit S W)))
    (c3 : CalM P w K mg base S "doors_of" 2 ["self", "place"] (SpN (F_doors S W)))
    (c4 : CalM P w K mg base S "all_things" 1 ["self"] (SpN (F_all S W)))
    (c5 : CalF P w K mg base "is_hidden" 4 ["state", "thing"] (SpD (F_hid S W)))
    (c6 : CalF P w K mg base "root_of" 4 ["state", "thing"] (SpD (F_root S W))) : FnOk P w K mg base CX0 6 f fd ["state"] (SpN (F_seen S W)) := by
  obtain ⟨_, _, G1, M1, B1⟩ := c1.ex
  obtain ⟨_, _, G2, M2, K2, B2⟩ := c2.ex
  obtain ⟨_, _, G3, M3, B3⟩ := c3.ex
  obtain ⟨_, _, G4, M4, B4⟩ := c4.ex
  obtain ⟨_, _, G5, M5, K5, B5⟩ := c5.ex
  obtain ⟨_, _, G6, M6, K6, B6⟩ := c6.ex
  refine F.ok sc_seen_things (SpN.len (by rintro ds d ⟨m, s, wf, rfl, rfl⟩; rfl)) (fun cdv A outer s0 H vs Q E hr h => ?_)
  have hu := hu_of hr
  have hu65 : (A.deeper (envOfC "seen_things" (defScope s_seen_things) s0.heap.objs.size f cdv)).units + 65 < cLine := by have := hr.un; omega
  obtain ⟨O, ds, d, hd, hm, ⟨m, s, wf, rfl, rfl⟩, k⟩ := h
  refine ⟨_, PSs.nox (pss_cons (ps_set (i := 1) sc_seen_things.nd rfl (Or.inl rfl) (pe_meth0 (pv 0) T.clS M1 G1 (hr.mono (by decide)) B1 .nil pass0))
    (pss_cons (ps_set (i := 2) sc_seen_things.nd rfl (Or.inl rfl) (pe_lst (pa_cons (pe_tup (pa_cons pe_str pa_nil)) pa_nil)))
    (pss_cons (ps_set (i := 3) sc_seen_things.nd rfl (Or.inl rfl) (pe_lst pa_nil))
    (pss_cons (ps_if (pt_val (pe_call G2 (hr.mono (by decide)) rfl M2 K2 B2 .nil pass0 (pa_cons (pv 0) (pa_cons (pv 1) pa_nil)))) (pss_cons (ps_expr (pe_bm PySem.F.plainAttrs_list PySem.F.slot_list_append PySem.F.type_list_append mt_append (pv 2) (pa_cons (pe_tup (pa_cons pe_str (pa_cons (pv 1) pa_nil))) pa_nil)))
    (pss_one (ps_set (i := 3) sc_seen_things.nd rfl (Or.inl rfl) (pe_meth (pv 0) T.clS M3 G3 (hr.mono (by decide)) B3 .nil pass0 (pa_cons (pv 1) pa_nil))))) pss_nil)
    (pss_cons (ps_set (i := 4) sc_seen_things.nd rfl (Or.inl rfl) (pe_lst pa_nil))
    (pss_cons (ps_for PassesOwn.never rfl (kList (K := K) (pe_meth0 (pv 0) T.clS M4 G4 (hr.mono (by decide)) B4 .nil pass0)) (pg_name (i := 5) sc_seen_things.nd rfl (Or.inl rfl)) (pss_one (ps_if (PW.pt (pw_or (pt_cmpR (kIn (K := K)) (pv 5) (pv 3) (by rfl)) (pw_or1 (PW.pt (pw_and (pt_cmpR (kInD (K := K) hu65) (pe_call G6 (hr.mono (by decide)) rfl M6 K6 B6 .nil pass0 (pa_cons (pv 0) (pa_cons (pv 5) pa_nil))) (pv 2) (by rfl)) (pw_and1 (pt_not (pt_val (pe_call G5 (hr.mono (by decide)) rfl M5 K5 B5 .nil pass0 (pa_cons (pv 0) (pa_cons (pv 5) pa_nil))))))))))) (pss_one (ps_expr (pe_bm PySem.F.plainAttrs_list PySem.F.slot_list_append PySem.F.type_list_append mt_append (pv 4) (pa_cons (pv 5) pa_nil)))) pss_nil)))
    (pss_one (ps_ret (pv 4))))))))), ?_⟩
  have a : At O H [some (stD S W m s), none, none, none, none, none] none (L2.start N_seen_things vs) H := At.begin_ (N := N_seen_things) hm
  have hp := wf.hk
  refine s_seq (s_asg hd (ev_meth (fs := sfs W m s) (ev_var rfl) (s_no (by decide +kernel)) ea_nil ⟨m, s, wf, rfl, rfl⟩).up (by decide) (fun σ H1 a => ?_) a)
  refine s_seq (s_new hd (en_lst (ea_cons ev_with ea_nil) (by show 1 ≤ 100000; decide)) (Nat.le_of_ble_eq_true rfl) (fun σ H1 a => ?_) a)
  refine s_seq (s_asg hd (EvN.toD (en_lst ea_nil (Nat.zero_le _))).up (by decide) (fun σ H1 a => ?_) a)
  refine s_seq (s_ifJ (b := litF m s s.here) (ρ' := [some (stD S W m s), some (.str s.here), none, some (.lst ((if litF m s s.here then doorsF m s.here else []).map .str)), none, none]) (wn' := some (2, .L ((rootsS s (litF m s s.here)).map Wh.d))) hd (et_B (ev_call (ea_cons (ev_var rfl) (ea_cons (ev_var rfl) ea_nil)) ⟨m, s, _, wf, rfl, hp, rfl⟩)).up (fun hb kk σ H1 a => ?_) (fun hb kk σ H1 a => ?_) (fun σ H1 a => ?_) a)
  · refine s_seq (s_app hd (ev_at (ev_var rfl)).up (by show 1 < 100000; decide) (fun σ H1 a => ?_) a)
    refine s_asg hd (EvN.toD (en_meth (fs := sfs W m s) (ev_var rfl) (s_no (by decide +kernel)) (ea_cons (ev_var rfl) ea_nil) ⟨m, s, _, wf, rfl, hp, rfl⟩)).up (by simp [wslot]) (fun σ H1 a => kk σ H1 ?_) a
    unfold rootsS
    rw [hb, if_pos rfl, if_pos rfl]
    exact a
  · refine kk σ H1 ?_
    unfold rootsS
    rw [hb, if_neg (by decide), if_neg (by decide)]
    exact a
  have a := a.freeze hd
  have rok : ∀ w, w ∈ rootsS s (litF m s s.here) → w.ok = true := fun w hw => by
    unfold rootsS at hw
    rcases List.mem_cons.mp hw with e | hw
    · rw [e]
      rfl
    · split at hw
      · rw [List.mem_singleton.mp hw]
        exact wf.wm.placeOk hp
      · cases hw
  refine s_seq (s_new hd (en_lst ea_nil (Nat.zero_le _)) (Nat.le_of_ble_eq_true rfl) (fun σ H1 a => ?_) a)
  refine s_seq (s_for D.str m.names hd (EvN.toD (en_meth (fs := sfs W m s) (ev_var rfl) (s_no (by decide +kernel)) ea_nil ⟨m, s, wf, rfl, rfl⟩)).up (fun _ => [some (stD S W m s), some (.str s.here), some (.lst ((rootsS s (litF m s s.here)).map Wh.d)), some (.lst ((if litF m s s.here then doorsF m s.here else []).map .str)), none, none]) (fun i => some (4, .L (((m.names.take i).filter (seenX m s (litF m s s.here))).map .str))) (fun _ => True) (fun x ρ => ρ.set 5 (some (.str x))) [5] (fun _ _ => tg_name) (fun n i z => by cases z; decide) rfl rfl trivial
    (fun Hb sb db i x hi _ σ H1 a => ?_) (fun _ σ H1 a => ?_) a)
  · have hx := List.mem_of_getElem? hi
    have ft := filter_take (seenX m s (litF m s s.here)) m.names hi
    have wk : ∀ {c σ H1}, At O Hb [some (stD S W m s), some (.str s.here), some (.lst ((rootsS s (litF m s s.here)).map Wh.d)), some (.lst ((if litF m s s.here then doorsF m s.here else []).map .str)), none, some (.str x)] (some (4, c)) σ H1 → At O Hb [some (stD S W m s), some (.str s.here), some (.lst ((rootsS s (litF m s s.here)).map Wh.d)), some (.lst ((if litF m s s.here then doorsF m s.here else []).map .str)), none, none] (some (4, c)) σ H1 := fun a => a.weak (.keep (.keep (.keep (.keep (.keep (.drop .nil))))))
    refine s_if (b := seenX m s (litF m s s.here) x) db (et_or (et_test (ev_op (ev_var rfl) (ev_var rfl) rd_inL)) (fun _ => et_and (et_test (ev_op (ev_call (ea_cons (ev_var rfl) (ea_cons (ev_var rfl) ea_nil)) ⟨m, s, x, wf, rfl, hx, rfl⟩) (ev_var rfl) (rd_inW (wf.rootok hx) rok))) (fun _ => et_not (et_B (ev_call (ea_cons (ev_var rfl) (ea_cons (ev_var rfl) ea_nil)) ⟨m, s, x, wf, rfl, hx, rfl⟩))))).up (fun hb σ H1 a => ?_) (fun hb σ H1 a => ⟨trivial, ?_⟩) a
    · refine s_app db (ev_var rfl).up ?_ (fun σ H1 a => ⟨trivial, ?_⟩) a
      · rw [List.length_map]
        exact Nat.lt_of_le_of_lt (Nat.le_trans (List.length_filter_le ..) (by rw [List.length_take]; exact Nat.min_le_right ..)) (Nat.lt_of_le_of_lt (by rw [List.length_map]; exact wf.wm.tl) (by decide))
      · rw [ft, if_pos hb, List.map_append]
        exact wk a
    · rw [ft, if_neg (show ¬ seenX m s (litF m s s.here) x = true by rw [hb]; decide), List.append_nil]
      exact wk a
  · rw [List.take_of_length_le (Nat.le_refl _)] at a
    exact s_retO k a
abbrev N_is_truth : List Str := ["thing"]
theorem sc_is_truth : FnScope N_is_truth ["thing"] (defScope s_is_truth) := ⟨rfl, rfl, rfl, by decide +kernel, rfl, by decide +kernel, by decide +kernel⟩
theorem d_is_truth {P : Program} {w : World} {K : PySem.W.Frag} {mg : Str → Option Value} {base : Heap} {S W : Addr} {f : Addr} {fd : FuncData} (F : FunW K "is_truth" "is_truth" s_is_truth f fd) (T : Txt K mg S W) : FnOk P w K mg base CX0 1 f fd ["thing"] (SpD F_truth) := by
  refine F.ok sc_is_truth (SpD.len (by rintro ds d ⟨b, rfl, rfl⟩; rfl)) (fun cdv A outer s0 H vs Q E hr h => ?_)
  have hu := hu_of hr
  obtain ⟨O, ds, d, hd, hm, ⟨b, rfl, rfl⟩, k⟩ := h
  refine ⟨_, PSs.nox (pss_one (ps_ret (pe_callB (kIsi (K := K)) (by rfl) T.isinstance (by decide +kernel) (pa_cons (pv 0) (pa_cons (pe_bltn (v := .ty "bool") (by rfl) T.bool (by decide +kernel) rfl) pa_nil))))), ?_⟩
  have a : At O H [some (.bl b)] none (L2.start N_is_truth vs) H := At.begin_ (N := N_is_truth) hm
  exact s_ret hd (ev_cb (ea_cons (ev_var rfl) (ea_cons ev_ty ea_nil)) (cd_isi (r := true) rfl (by decide +kernel))).up k a
abbrev N_S_is_where : List Str := ["self", "where"]
theorem sc_S_is_where : FnScope N_S_is_where ["self", "where"] (defScope s_S_is_where) := ⟨rfl, rfl, rfl, by decide +kernel, rfl, by decide +kernel, by decide +kernel⟩
theorem d_S_is_where {P : Program} {w : World} {K : PySem.W.Frag} {mg : Str → Option Value} {base : Heap} {S W : Addr} {f : Addr} {fd : FuncData} (F : FunW K "is_where" "State.is_where" s_S_is_where f fd) (T : Txt K mg S W)
    (c1 : CalM P w K mg base S "holder_has" 1 ["self", "thing", "trait"] (SpD (F_hhas S W))) : FnOk P w K mg base CX0 2 f fd ["self", "where"] (SpD (F_iswh S W)) := by
  obtain ⟨_, _, G1, M1, B1⟩ := c1.ex
  refine F.ok sc_S_is_where (SpD.len (by rintro ds d ⟨m, s, w, wf, rfl, hw, rfl⟩; rfl)) (fun cdv A outer s0 H vs Q E hr h => ?_)
  have hu := hu_of hr
  obtain ⟨O, ds, d, hd, hm, ⟨m, s, w, wf, rfl, hw, rfl⟩, k⟩ := h
  refine ⟨_, PSs.nox (pss_cons (ps_if (PW.pt (pw_or (pt_not (pt_val (pe_callB (kIsi (K := K)) (by rfl) T.isinstance (by decide +kernel) (pa_cons (pv 1) (pa_cons (pe_bltn (v := .ty "tuple") (by rfl) T.tuple (by decide +kernel) rfl) pa_nil))))) (pw_or (pt_not (pt_chain op_le op_le pe_int (pe_callB (kLen (K := K)) (by rfl) T.len (by decide +kernel) (pa_cons (pv 1) pa_nil)) pe_int)) (pw_or1 (pt_not (pt_val (pe_callB (kIsi (K := K)) (by rfl) T.isinstance (by decide +kernel) (pa_cons (pe_ix (kIxT (K := K)) (pv 1) pe_int (fun _ _ => rfl)) (pa_cons (pe_bltn (v := .ty "str") (by rfl) T.str (by decide +kernel) rfl) pa_nil))))))))) (pss_one (ps_ret pe_bl)) pss_nil)
    (pss_cons (ps_if (pt_cmpR op_eq (pe_callB (kLen (K := K)) (by rfl) T.len (by decide +kernel) (pa_cons (pv 1) pa_nil)) pe_int (by rfl)) (pss_one (ps_ret (pe_cmpR (kIn (K := K)) (pe_ix (kIxT (K := K)) (pv 1) pe_int (fun _ _ => rfl)) (pe_tup (pa_cons pe_str (pa_cons pe_str pa_nil))) (by rfl)))) pss_nil)
    (pss_cons (ps_if (pt_cmpR op_eq (pe_ix (kIxT (K := K)) (pv 1) pe_int (fun _ _ => rfl)) pe_str (by rfl)) (pss_one (ps_ret (pe_and (pe_callB (kIsi (K := K)) (by rfl) T.isinstance (by decide +kernel) (pa_cons (pe_ix (kIxT (K := K)) (pv 1) pe_int (fun _ _ => rfl)) (pa_cons (pe_bltn (v := .ty "str") (by rfl) T.str (by decide +kernel) rfl) pa_nil))) (pe_one (pe_cmp (pc_din hu (pe_ix (kIxT (K := K)) (pv 1) pe_int (fun _ _ => rfl)) (kFld (K := K) (pv 0) rfl)) (by rfl)))))) pss_nil)
    (pss_cons (ps_if (pt_cmpR op_eq (pe_ix (kIxT (K := K)) (pv 1) pe_int (fun _ _ => rfl)) pe_str (by rfl)) (pss_one (ps_ret (pe_meth (pv 0) T.clS M1 G1 (hr.mono (by decide)) B1 .nil pass0 (pa_cons (pe_ix (kIxT (K := K)) (pv 1) pe_int (fun _ _ => rfl)) (pa_cons pe_str pa_nil))))) pss_nil)
    (pss_one (ps_ret (pe_and (pe_cmpR op_eq (pe_ix (kIxT (K := K)) (pv 1) pe_int (fun _ _ => rfl)) pe_str (by rfl)) (pe_one (pe_meth (pv 0) T.clS M1 G1 (hr.mono (by decide)) B1 .nil pass0 (pa_cons (pe_ix (kIxT (K := K)) (pv 1) pe_int (fun _ _ => rfl)) (pa_cons pe_str pa_nil))))))))))), ?_⟩
  have a : At O H [some (stD S W m s), some w.d] none (L2.start N_S_is_where vs) H := At.begin_ (N := N_S_is_where) hm
  have et2 : ∀ {p q : Str}, EvT (tOr (tNot (tB (tCB (rIsi K) (tCons (tVar 1) (tCons (tC (.ty "tuple")) tNil))))) (tOr (tNot (tTest (tChain (rI0 fun i j => .bl (decide (i ≤ j))) (rI0 fun i j => .bl (decide (i ≤ j))) (tC (.int 1)) (tCB (cLen K) (tCons (tVar 1) tNil)) (tC (.int 2))))) (tNot (tB (tCB (rIsi K) (tCons (tOp (rIxT K) (tVar 1) (tC (.int 0))) (tCons (tC (.ty "str")) tNil))))))) [some (stD S W m s), some (.tup [.str p, .str q])] false := fun {p q} =>
    (et_or (et_not (et_B (ev_cb (ea_cons (ev_var rfl) (ea_cons ev_ty ea_nil)) (cd_isi (r := true) rfl (by decide +kernel))))) (fun _ => et_or (et_not (et_test (ev_chain ev_int (ev_cb (ea_cons (ev_var rfl) ea_nil) cd_lenT) ev_int rd_ib rd_ib))) (fun _ => et_not (et_B (ev_cb (ea_cons (ev_op (ev_var rfl) ev_int (rd_ixT (d := .str p) rfl)) (ea_cons ev_ty ea_nil)) (cd_isi (r := true) rfl (by decide +kernel))))))).is rfl
  have et1 : ∀ {p : Str}, EvT (tOr (tNot (tB (tCB (rIsi K) (tCons (tVar 1) (tCons (tC (.ty "tuple")) tNil))))) (tOr (tNot (tTest (tChain (rI0 fun i j => .bl (decide (i ≤ j))) (rI0 fun i j => .bl (decide (i ≤ j))) (tC (.int 1)) (tCB (cLen K) (tCons (tVar 1) tNil)) (tC (.int 2))))) (tNot (tB (tCB (rIsi K) (tCons (tOp (rIxT K) (tVar 1) (tC (.int 0))) (tCons (tC (.ty "str")) tNil))))))) [some (stD S W m s), some (.tup [.str p])] false := fun {p} =>
    (et_or (et_not (et_B (ev_cb (ea_cons (ev_var rfl) (ea_cons ev_ty ea_nil)) (cd_isi (r := true) rfl (by decide +kernel))))) (fun _ => et_or (et_not (et_test (ev_chain ev_int (ev_cb (ea_cons (ev_var rfl) ea_nil) cd_lenT) ev_int rd_ib rd_ib))) (fun _ => et_not (et_B (ev_cb (ea_cons (ev_op (ev_var rfl) ev_int (rd_ixT (d := .str p) rfl)) (ea_cons ev_ty ea_nil)) (cd_isi (r := true) rfl (by decide +kernel))))))).is rfl
  cases w with
  | at_ p =>
    obtain ⟨b, hb⟩ := look_some hw
    refine (q_when hd et2.up (fun z => nomatch z) (fun _ σ H1 a => ?_) a)
    refine (q_when (b := false) hd ((et_test (ev_op (ev_cb (ea_cons (ev_var rfl) ea_nil) cd_lenT) ev_int rd_eqI)).is (by rfl)).up (fun z => nomatch z) (fun _ σ H1 a => ?_) a)
    refine (q_when (b := true) hd ((et_test (ev_op (ev_op (ev_var rfl) ev_int (rd_ixT (d := .str "at") rfl)) ev_str rd_eqS)).is (by decide +kernel)).up (fun _ σ H1 a => ?_) (fun z => nomatch z) a)
    refine s_ret hd ((ev_andV (ev_cb (ea_cons (ev_op (ev_var rfl) ev_int (rd_ixT (d := .str p) rfl)) (ea_cons ev_ty ea_nil)) (cd_isi (r := true) rfl (by decide +kernel))) (fun _ => ev_din (ev_op (ev_var rfl) ev_int (rd_ixT (d := .str p) rfl)) (ev_sf T (ev_var rfl) s_rooms))).is ?_).up k a
    rw [val_bl hb]
    rfl
  | in_ p =>
    obtain ⟨t, ht, hbx⟩ := hw
    refine (q_when hd et2.up (fun z => nomatch z) (fun _ σ H1 a => ?_) a)
    refine (q_when (b := false) hd ((et_test (ev_op (ev_cb (ea_cons (ev_var rfl) ea_nil) cd_lenT) ev_int rd_eqI)).is (by rfl)).up (fun z => nomatch z) (fun _ σ H1 a => ?_) a)
    refine (q_when (b := false) hd ((et_test (ev_op (ev_op (ev_var rfl) ev_int (rd_ixT (d := .str "in") rfl)) ev_str rd_eqS)).is (by decide +kernel)).up (fun z => nomatch z) (fun _ σ H1 a => ?_) a)
    refine (q_when (b := true) hd ((et_test (ev_op (ev_op (ev_var rfl) ev_int (rd_ixT (d := .str "in") rfl)) ev_str rd_eqS)).is (by decide +kernel)).up (fun _ σ H1 a => ?_) (fun z => nomatch z) a)
    refine s_ret hd ((ev_meth (fs := sfs W m s) (ev_var rfl) (s_no (by decide +kernel)) (ea_cons (ev_op (ev_var rfl) ev_int (rd_ixT (d := .str p) rfl)) (ea_cons ev_str ea_nil)) ⟨m, s, _, _, wf, rfl, thg_in ht, rfl⟩).is ?_).up k a
    unfold hasT
    rw [ht]
    exact congrArg D.bl (decide_eq_true hbx)
  | on_ p =>
    obtain ⟨t, ht, hbx⟩ := hw
    refine (q_when hd et2.up (fun z => nomatch z) (fun _ σ H1 a => ?_) a)
    refine (q_when (b := false) hd ((et_test (ev_op (ev_cb (ea_cons (ev_var rfl) ea_nil) cd_lenT) ev_int rd_eqI)).is (by rfl)).up (fun z => nomatch z) (fun _ σ H1 a => ?_) a)
    refine (q_when (b := false) hd ((et_test (ev_op (ev_op (ev_var rfl) ev_int (rd_ixT (d := .str "on") rfl)) ev_str rd_eqS)).is (by decide +kernel)).up (fun z => nomatch z) (fun _ σ H1 a => ?_) a)
    refine (q_when (b := false) hd ((et_test (ev_op (ev_op (ev_var rfl) ev_int (rd_ixT (d := .str "on") rfl)) ev_str rd_eqS)).is (by decide +kernel)).up (fun z => nomatch z) (fun _ σ H1 a => ?_) a)
    refine s_ret hd ((ev_andV ((ev_op (ev_op (ev_var rfl) ev_int (rd_ixT (d := .str "on") rfl)) ev_str rd_eqS).is (y := .bl true) (congrArg D.bl (by decide +kernel))) (fun _ => ev_meth (fs := sfs W m s) (ev_var rfl) (s_no (by decide +kernel)) (ea_cons (ev_op (ev_var rfl) ev_int (rd_ixT (d := .str p) rfl)) (ea_cons ev_str ea_nil)) ⟨m, s, _, _, wf, rfl, thg_in ht, rfl⟩)).is ?_).up k a
    unfold hasT
    rw [ht]
    exact congrArg D.bl (decide_eq_true hbx)
  | with_ =>
    refine (q_when hd et1.up (fun z => nomatch z) (fun _ σ H1 a => ?_) a)
    refine (q_when (b := true) hd ((et_test (ev_op (ev_cb (ea_cons (ev_var rfl) ea_nil) cd_lenT) ev_int rd_eqI)).is (by rfl)).up (fun _ σ H1 a => ?_) (fun z => nomatch z) a)
    exact s_ret hd ((ev_op (ev_op (ev_var rfl) ev_int (rd_ixT (d := .str "with") rfl)) (ev_pair ev_str ev_str) (rd_inT (ss := ["with", "nowhere"]))).is (congrArg D.bl (by decide +kernel))).up k a
  | nowhere =>
    refine (q_when hd et1.up (fun z => nomatch z) (fun _ σ H1 a => ?_) a)
    refine (q_when (b := true) hd ((et_test (ev_op (ev_cb (ea_cons (ev_var rfl) ea_nil) cd_lenT) ev_int rd_eqI)).is (by rfl)).up (fun _ σ H1 a => ?_) (fun z => nomatch z) a)
    exact s_ret hd ((ev_op (ev_op (ev_var rfl) ev_int (rd_ixT (d := .str "nowhere") rfl)) (ev_pair ev_str ev_str) (rd_inT (ss := ["with", "nowhere"]))).is (congrArg D.bl (by decide +kernel))).up k a
abbrev N_S_would_ring : List Str := ["self", "thing", "where"]
theorem sc_S_would_ring : FnScope N_S_would_ring ["self", "thing", "where"] (defScope s_S_would_ring) := ⟨rfl, rfl, rfl, by decide +kernel, rfl, by decide +kernel, by decide +kernel⟩
theorem d_S_would_ring {P : Program} {w : World} {K : PySem.W.Frag} {mg : Str → Option Value} {base : Heap} {S W : Addr} {f : Addr} {fd : FuncData} (F : FunW K "would_ring" "State.would_ring" s_S_would_ring f fd) (T : Txt K mg S W) : FnOk P w K mg base CX0 1 f fd ["self", "thing", "where"] (SpD (F_ring S W)) := by
  refine F.ok sc_S_would_ring (SpD.len (by rintro ds d ⟨m, s, x, w, c, r, wf, rfl, hc, hxc, rfl⟩; rfl)) (fun cdv A outer s0 H vs Q E hr h => ?_)
  have hu := hu_of hr
  obtain ⟨O, ds, d, hd, hm, ⟨m, s, x, w, c, r, wf, rfl, hc, hxc, rfl⟩, k⟩ := h
  refine ⟨_, PSs.nox (pss_cons (ps_while PassesOwn.never (pt_cmpR (kIn (K := K)) (pe_ix (kIxT (K := K)) (pv 2) pe_int (fun _ _ => rfl)) (pe_tup (pa_cons pe_str (pa_cons pe_str pa_nil))) (by rfl)) (pss_cons (ps_if (pt_cmpR op_eq (pe_ix (kIxT (K := K)) (pv 2) pe_int (fun _ _ => rfl)) (pv 1) (by rfl)) (pss_one (ps_ret pe_bl)) pss_nil)
    (pss_one (ps_set (i := 2) sc_S_would_ring.nd rfl (Or.inl rfl) (pe_dget hu (kFld (K := K) (pv 0) rfl) (pe_ix (kIxT (K := K)) (pv 2) pe_int (fun _ _ => rfl)) (fun _ _ => rfl))))))
    (pss_one (ps_ret pe_bl))), ?_⟩
  have a : At O H [some (stD S W m s), some (.str x), some w.d] none (L2.start N_S_would_ring vs) H := At.begin_ (N := N_S_would_ring) hm
  have hn := wf.chain_in hc
  refine s_seq (s_while c.length (fun i => [some (stD S W m s), some (.str x), some (wAt c r i).d]) (fun i => none) hd (by rw [wAt_0 hc]) rfl (fun i hi => ?_) ?_ (fun i hi σ H1 a => ?_) (fun σ H1 a => ?_) a)
  · refine ((et_held (ev_var rfl)).is ?_).up
    rw [wAt_i (List.getElem?_eq_getElem hi)]
    exact isHeld_link _
  · refine ((et_held (ev_var rfl)).is ?_).up
    rw [wAt_n]
    exact hc.root
  · have hp := List.getElem?_eq_getElem hi
    have hnx := hc.next hp
    have hne : ¬ (c[i]).2 = x := fun z => hxc (by rw [← z]; exact List.mem_map.mpr ⟨_, List.mem_of_getElem? hp, rfl⟩)
    rw [wAt_i hp] at a
    refine (q_when (b := false) hd ((et_test (ev_op (ev_arg (p := c[i]) (ev_var rfl)) (ev_var rfl) rd_eqS)).is (decide_eq_false hne)).up (fun z => nomatch z) (fun _ σ H1 a => ?_) a)
    refine s_asg hd (ev_dget (ev_sf T (ev_var rfl) s_wheres) (ev_arg (p := c[i]) (ev_var rfl)) (val_wh hnx)).up (by decide) (fun σ H1 a => ?_) a
    exact a
  · dsimp only
    exact s_ret hd ev_bl.up k a
abbrev N_W_told : List Str := ["self", "first"]
theorem sc_W_told : FnScope N_W_told ["self"] (defScope s_W_told) := ⟨rfl, rfl, rfl, by decide +kernel, rfl, by decide +kernel, by decide +kernel⟩
theorem d_W_told {P : Program} {w : World} {K : PySem.W.Frag} {mg : Str → Option Value} {base : Heap} {S W : Addr} {f : Addr} {fd : FuncData} (F : FunW K "told" "World.told" s_W_told f fd) (T : Txt K mg S W) : FnOk P w K mg base CX0 1 f fd ["self"] (SpD (F_wtold W)) := by
  refine F.ok sc_W_told (SpD.len (by rintro ds d ⟨m, wm, rfl, rfl⟩; rfl)) (fun cdv A outer s0 H vs Q E hr h => ?_)
  have hu := hu_of hr
  obtain ⟨O, ds, d, hd, hm, ⟨m, wm, rfl, rfl⟩, k⟩ := h
  refine ⟨_, PSs.nox (pss_cons (ps_set (i := 1) sc_W_told.nd rfl (Or.inl rfl) (pe_tup (pa_cons (pe_callTy (kListOf (K := K)) (by rfl) T.list (by decide +kernel) (pa_cons (kFld (K := K) (pv 0) rfl) pa_nil)) (pa_cons (pe_callTy (kListOf (K := K)) (by rfl) T.list (by decide +kernel) (pa_cons (kFld (K := K) (pv 0) rfl) pa_nil)) (pa_cons (pe_callTy (kListOf (K := K)) (by rfl) T.list (by decide +kernel) (pa_cons (kFld (K := K) (pv 0) rfl) pa_nil)) (pa_cons (pe_callTy (kListOf (K := K)) (by rfl) T.list (by decide +kernel) (pa_cons (kFld (K := K) (pv 0) rfl) pa_nil)) pa_nil))))))
    (pss_one (ps_ret (pe_op (kCatA (K := K)) (pv 1) (pe_tup (pa_cons (pe_callTy (kListOf (K := K)) (by rfl) T.list (by decide +kernel) (pa_cons (kFld (K := K) (pv 0) rfl) pa_nil)) (pa_cons (pe_callTy (kListOf (K := K)) (by rfl) T.list (by decide +kernel) (pa_cons (kFld (K := K) (pv 0) rfl) pa_nil)) (pa_cons (pe_callTy (kListOf (K := K)) (by rfl) T.list (by decide +kernel) (pa_cons (kFld (K := K) (pv 0) rfl) pa_nil)) (pa_cons (pe_callTy (kListOf (K := K)) (by rfl) T.list (by decide +kernel) (pa_cons (kFld (K := K) (pv 0) rfl) pa_nil)) pa_nil))))))))), ?_⟩
  have a : At O H [some (woD W m), none] none (L2.start N_W_told vs) H := At.begin_ (N := N_W_told) hm
  have el : ∀ {f : Str} {ds : List D}, (wfs m).lookup f = some (.lst ds) → (wKeys.contains f) = true → EvD (tCB (cList K) (tCons (tFld K (tVar 0) f) tNil)) [some (woD W m), none] (.lst ds) := fun h1 h2 => EvN.toD (en_cb (ea_cons (ev_wf T (ev_var rfl) h1 h2) ea_nil) cn_listL)
  have el2 : ∀ {f : Str} {ds : List D} {x : D}, (wfs m).lookup f = some (.lst ds) → (wKeys.contains f) = true → EvD (tCB (cList K) (tCons (tFld K (tVar 0) f) tNil)) [some (woD W m), some x] (.lst ds) := fun h1 h2 => EvN.toD (en_cb (ea_cons (ev_wf T (ev_var rfl) h1 h2) ea_nil) cn_listL)
  refine s_seq (s_asg hd (ev_tup (ea_cons (el w_places (by decide +kernel)) (ea_cons (el w_things (by decide +kernel)) (ea_cons (el w_ways (by decide +kernel)) (ea_cons (el w_states (by decide +kernel)) ea_nil)))) (by show 4 ≤ 100000; decide)).up (by decide) (fun σ H1 a => ?_) a)
  exact s_ret hd (ev_op (ev_var rfl) (ev_tup (ea_cons (el2 w_rules (by decide +kernel)) (ea_cons (el2 w_everies (by decide +kernel)) (ea_cons (el2 w_scenes (by decide +kernel)) (ea_cons (el2 w_ends (by decide +kernel)) ea_nil)))) (by show 4 ≤ 100000; decide)) (rd_catT (ds := [.lst (m.places.map placeD), .lst (m.things.map Thing.d), .lst (m.ways.map Way.d), .lst (m.states.map strowD)]) (by show 8 ≤ 100000; decide))).up k a
abbrev N_words_for : List Str := ["world", "thing", "row", "one"]
theorem sc_words_for : FnScope N_words_for ["world", "thing"] (defScope s_words_for) := ⟨rfl, rfl, rfl, by decide +kernel, rfl, by decide +kernel, by decide +kernel⟩
theorem d_words_for {P : Program} {w : World} {K : PySem.W.Frag} {mg : Str → Option Value} {base : Heap} {S W : Addr} {f : Addr} {fd : FuncData} (F : FunW K "words_for" "words_for" s_words_for f fd) (T : Txt K mg S W)
    (c1 : CalM P w K mg base W "told" 1 ["self"] (SpD (F_wtold W))) : FnOk P w K mg base CX0 2 f fd ["world", "thing"] (SpD (F_words W)) := by
  obtain ⟨_, _, G1, M1, B1⟩ := c1.ex
  refine F.ok sc_words_for (SpD.len (by rintro ds d ⟨m, x, wm, rfl, hx, rfl⟩; rfl)) (fun cdv A outer s0 H vs Q E hr h => ?_)
  have hu := hu_of hr
  obtain ⟨O, ds, d, hd, hm, ⟨m, x, wm, rfl, hx, rfl⟩, k⟩ := h
  refine ⟨_, PSs.nox (pss_cons (ps_set (i := 2) sc_words_for.nd rfl (Or.inl rfl) (pe_ix (kIxL (K := K)) (pe_lc (own := [("one", 3)]) (g := (gName 3)) rfl sc_words_for.nd (kList (K := K) (pe_ix (kIxT (K := K)) (pe_meth0 (pv 0) T.clW M1 G1 (hr.mono (by decide)) B1 .nil pass0) pe_int (fun _ _ => rfl))) (blkOk_by (own := [("one", 3)]) (N := N_words_for) (sc := defScope s_words_for) (by decide +kernel)) (fun _ _ _ _ _ => (pg_name (i := 3) sc_words_for.nd rfl (Or.inl rfl))) (fun _ _ _ _ _ => (pts_one (pt_cmpR op_eq (pe_ix (kIxT (K := K)) (pv 3) pe_int (fun _ _ => rfl)) (pv 1) (by rfl)))) (fun _ _ _ _ _ => (pv 3))) pe_int (fun _ _ => rfl)))
    (pss_one (ps_ret (kJoin (K := K) pe_str (pe_op op_cat (pe_callTy (kListOf (K := K)) (by rfl) T.list (by decide +kernel) (pa_cons (pe_ix (kIxT (K := K)) (pv 2) pe_int (fun _ _ => rfl)) pa_nil)) (pe_lst (pa_cons (pe_ix (kIxT (K := K)) (pv 2) pe_int (fun _ _ => rfl)) pa_nil))))))), ?_⟩
  have a : At O H [some (woD W m), some (.str x), none, none] none (L2.start N_words_for vs) H := At.begin_ (N := N_words_for) hm
  obtain ⟨t, ht⟩ := thg_some hx
  have tok := wm.tok t (thg_mem ht)
  rw [words_t ht] at k
  refine s_seq (s_asg hd (ev_op (EvN.toD (en_lc Thing.d m.things (fun t ρ => ρ.set 3 (some t.d)) (fun t => decide (t.name = x)) Thing.d (ev_op (ev_meth (fs := wfs m) (ev_var rfl) (w_no (by decide +kernel)) ea_nil ⟨m, wm, rfl, rfl⟩) ev_int (rd_ixT (d := .lst (m.things.map Thing.d)) rfl)) (Nat.lt_of_le_of_lt wm.tl (by decide)) (fun _ _ => tg_name)
    (fun t _ => et_test (ev_op (ev_op (x := t.d) (ev_var rfl) ev_int (rd_ixT (d := .str t.name) rfl)) (ev_var rfl) rd_eqS)) (fun t _ _ => ev_var rfl))) ev_int (rd_ixL (d := t.d) ?_)).up (by decide) (fun σ H1 a => ?_) a)
  · have e : ((m.things.filter fun t => decide (t.name = x)).map Thing.d)[0]? = some t.d := by
      rw [List.getElem?_map, ← List.head?_eq_getElem?, List.head?_filter]
      unfold thg at ht
      rw [ht]
      rfl
    exact atI_nat (j := 0) e
  · refine s_ret hd (ev_join (ss := t.adjs ++ [t.noun]) ev_str ((EvN.toD (en_op (EvN.toD (en_cb (ea_cons (ev_op (x := t.d) (ev_var rfl) ev_int (rd_ixT (d := .tup (t.adjs.map .str)) rfl)) ea_nil) cn_listT)) (EvN.toD (en_lst (ea_cons (ev_op (x := t.d) (ev_var rfl) ev_int (rd_ixT (d := .str t.noun) rfl)) ea_nil) (by show 1 ≤ 100000; decide))) (rn_cat ?_))).is ?_) ?_).up k a
    · rw [List.length_map]
      have := tok.few
      show _ + 1 ≤ _
      omega
    · rw [List.map_append]
      rfl
    · have h := sum_le 8 (t.adjs ++ [t.noun]) (fun z hz => by
        rcases List.mem_append.mp hz with hz | hz
        · exact (tok.adjs z hz).2.1
        · rw [List.mem_singleton.mp hz]
          exact tok.noun.2.1)
      have e : (" " : Str).length = 1 := by decide +kernel
      have hf := tok.few
      rw [e]
      rw [List.length_append] at h ⊢
      simp only [List.length_cons, List.length_nil] at h ⊢
      omega
abbrev N_the_name : List Str := ["world", "thing"]
theorem sc_the_name : FnScope N_the_name ["world", "thing"] (defScope s_the_name) := ⟨rfl, rfl, rfl, by decide +kernel, rfl, by decide +kernel, by decide +kernel⟩
theorem d_the_name {P : Program} {w : World} {K : PySem.W.Frag} {mg : Str → Option Value} {base : Heap} {S W : Addr} {f : Addr} {fd : FuncData} (F : FunW K "the_name" "the_name" s_the_name f fd) (T : Txt K mg S W)
    (c1 : CalF P w K mg base "words_for" 2 ["world", "thing"] (SpD (F_words W))) : FnOk P w K mg base CX0 3 f fd ["world", "thing"] (SpD (F_the W)) := by
  obtain ⟨_, _, G1, M1, K1, B1⟩ := c1.ex
  refine F.ok sc_the_name (SpD.len (by rintro ds d ⟨m, x, wm, rfl, hx, rfl⟩; rfl)) (fun cdv A outer s0 H vs Q E hr h => ?_)
  have hu := hu_of hr
  obtain ⟨O, ds, d, hd, hm, ⟨m, x, wm, rfl, hx, rfl⟩, k⟩ := h
  refine ⟨_, PSs.nox (pss_one (ps_ret (pe_op op_add_str pe_str (pe_call G1 (hr.mono (by decide)) rfl M1 K1 B1 .nil pass0 (pa_cons (pv 0) (pa_cons (pv 1) pa_nil)))))), ?_⟩
  have a : At O H [some (woD W m), some (.str x)] none (L2.start N_the_name vs) H := At.begin_ (N := N_the_name) hm
  have e : ("the " : Str).length = 4 := by decide +kernel
  have := (words_len wm hx).2
  exact s_ret hd (ev_op ev_str (ev_call (ea_cons (ev_var rfl) (ea_cons (ev_var rfl) ea_nil)) ⟨m, x, wm, rfl, hx, rfl⟩) (rd_addS (by omega))).up k a
abbrev N_a_name : List Str := ["world", "thing", "words"]
theorem sc_a_name : FnScope N_a_name ["world", "thing"] (defScope s_a_name) := ⟨rfl, rfl, rfl, by decide +kernel, rfl, by decide +kernel, by decide +kernel⟩
theorem d_a_name {P : Program} {w : World} {K : PySem.W.Frag} {mg : Str → Option Value} {base : Heap} {S W : Addr} {f : Addr} {fd : FuncData} (F : FunW K "a_name" "a_name" s_a_name f fd) (T : Txt K mg S W)
    (c1 : CalF P w K mg base "words_for" 2 ["world", "thing"] (SpD (F_words W))) : FnOk P w K mg base CX0 3 f fd ["world", "thing"] (SpD (F_a W)) := by
  obtain ⟨_, _, G1, M1, K1, B1⟩ := c1.ex
  obtain ⟨_, hvow⟩ := T.vowels
  refine F.ok sc_a_name (SpD.len (by rintro ds d ⟨m, x, wm, rfl, hx, rfl⟩; rfl)) (fun cdv A outer s0 H vs Q E hr h => ?_)
  have hu := hu_of hr
  obtain ⟨O, ds, d, hd, hm, ⟨m, x, wm, rfl, hx, rfl⟩, k⟩ := h
  refine ⟨_, PSs.nox (pss_cons (ps_set (i := 2) sc_a_name.nd rfl (Or.inl rfl) (pe_call G1 (hr.mono (by decide)) rfl M1 K1 B1 .nil pass0 (pa_cons (pv 0) (pa_cons (pv 1) pa_nil))))
    (pss_one (ps_ret (pe_op op_add_str (pe_ifExp (pt_cmpR op_inS (pe_ix ix_str (pv 2) pe_int (fun _ _ => rfl)) (pe_glob (v := .str "aeiou") rfl hvow ⟨_, rfl⟩) (by rfl)) pe_str pe_str) (pv 2))))), ?_⟩
  have a : At O H [some (woD W m), some (.str x), none] none (L2.start N_a_name vs) H := At.begin_ (N := N_a_name) hm
  have hl := words_len wm hx
  have e1 : ("an " : Str).length = 3 := by decide +kernel
  have e2 : ("a " : Str).length = 2 := by decide +kernel
  have hc : ∃ c, (wordsF m x).cps.toList[0]? = some c := by
    have h : 0 < (wordsF m x).cps.toList.length := by
      have h1 : 1 ≤ (wordsF m x).cps.size := hl.1
      rw [Array.length_toList]
      exact h1
    exact ⟨_, List.getElem?_eq_getElem h⟩
  obtain ⟨c, hc⟩ := hc
  have hv : vowel (wordsF m x) = decide (c ∈ ("aeiou" : Str).cps.toList) := by unfold vowel; rw [hc]
  refine s_seq (s_asg hd (ev_call (ea_cons (ev_var rfl) (ea_cons (ev_var rfl) ea_nil)) ⟨m, x, wm, rfl, hx, rfl⟩).up (by decide) (fun σ H1 a => ?_) a)
  refine s_ret hd (ev_op (ev_if (b := vowel (wordsF m x)) (d := .str (if vowel (wordsF m x) then ("an " : Str) else "a ")) ((et_test (ev_op (ev_op (ev_var rfl) ev_int (rd_ixS (Nat.le_trans hl.2 (by decide)) (atI_nat (j := 0) hc))) ev_str rd_inS)).is hv.symm) (fun hb => ?_) (fun hb => ?_)) (ev_var rfl) (rd_addS ?_)).up k a
  · rw [hb]
    exact ev_str
  · rw [hb]
    exact ev_str
  · have := hl.2
    split <;> omega
abbrev N_joined_by : List Str := ["texts", "word"]
theorem sc_joined_by : FnScope N_joined_by ["texts", "word"] (defScope s_joined_by) := ⟨rfl, rfl, rfl, by decide +kernel, rfl, by decide +kernel, by decide +kernel⟩
theorem d_joined_by {P : Program} {w : World} {K : PySem.W.Frag} {mg : Str → Option Value} {base : Heap} {S W : Addr} {f : Addr} {fd : FuncData} (F : FunW K "joined_by" "joined_by" s_joined_by f fd) (T : Txt K mg S W) : FnOk P w K mg base CX0 1 f fd ["texts", "word"] (SpD F_joinby) := by
  refine F.ok sc_joined_by (SpD.len (by rintro ds d ⟨xs, w, hs, hw, rfl, rfl⟩; rfl)) (fun cdv A outer s0 H vs Q E hr h => ?_)
  have hu := hu_of hr
  obtain ⟨O, ds, d, hd, hm, ⟨xs, w, hs, hw, rfl, rfl⟩, k⟩ := h
  refine ⟨_, PSs.nox (pss_cons (ps_if (pt_cmpR op_lt (pe_callB (kLen (K := K)) (by rfl) T.len (by decide +kernel) (pa_cons (pv 0) pa_nil)) pe_int (by rfl)) (pss_one (ps_ret (kJoin (K := K) pe_str (pv 0)))) pss_nil)
    (pss_one (ps_ret (pe_op op_add_str (pe_op op_add_str (pe_op op_add_str (pe_op op_add_str (kJoin (K := K) pe_str (pe_slice (kSlL (K := K)) (pv 0) po_none (po_some (pe_un un_neg pe_int)))) pe_str) (pv 1)) pe_str) (pe_ix (kIxL (K := K)) (pv 0) (pe_un un_neg pe_int) (fun _ _ => rfl)))))), ?_⟩
  have a : At O H [some (.lst (xs.map .str)), some (.str w)] none (L2.start N_joined_by vs) H := At.begin_ (N := N_joined_by) hm
  have e0 : Str.empty.length = 0 := rfl
  have e1 : (", " : Str).length = 2 := by decide +kernel
  have e2 : (" " : Str).length = 1 := by decide +kernel
  have hsum := hs.sum
  have hl := hs.1
  refine (q_when (b := decide (xs.length < 2)) hd ((et_test (ev_op (ev_cb (ea_cons (ev_var rfl) ea_nil) cd_lenL) ev_int rd_ib)).is ?_).up (fun hb σ H1 a => ?_) (fun hb σ H1 a => ?_) a)
  · rw [List.length_map]
    exact decide_eq_decide.mpr (by omega)
  · have h := of_decide_eq_true hb
    have e : joinP xs w = Txt.join Str.empty xs := by unfold joinP; rw [if_pos h]
    rw [e] at k
    exact s_ret hd (ev_join (a := Str.empty) ev_str (ev_var rfl) (by rw [e0]; omega)).up k a
  · have h := of_decide_eq_false hb
    have e : joinP xs w = Txt.join ", " xs.dropLast ++ " " ++ w ++ " " ++ (xs.getLast?.getD Str.empty) := by unfold joinP; rw [if_neg h]
    rw [e] at k
    have hy : ∃ y, xs.getLast? = some y := by
      cases q : xs.getLast? with
      | some y => exact ⟨y, rfl⟩
      | none =>
        rw [List.getLast?_eq_none_iff.mp q] at h
        exact absurd (by decide) h
    obtain ⟨y, hy⟩ := hy
    rw [hy] at k
    have hyl := hs.2 y (List.mem_of_getLast? hy)
    have h1 : ((xs.dropLast).map (·.length)).sum ≤ 40000 := Short.sum ⟨by rw [List.length_dropLast]; omega, fun x hx => hs.2 x (List.dropLast_subset _ hx)⟩
    have hj : (Txt.join ", " xs.dropLast).length ≤ 50000 := by
      rw [len_join, List.length_dropLast, e1]
      omega
    refine s_ret hd (ev_op (ev_op (ev_op (ev_op (ev_join (ss := xs.dropLast) ev_str ((EvN.toD (en_init (ev_var rfl) (ev_neg ev_int))).is ?_) ?_) ev_str (rd_addS ?_)) (ev_var rfl) (rd_addS ?_)) ev_str (rd_addS ?_)) (ev_op (ev_var rfl) (ev_neg ev_int) (rd_ixL (atI_lst (a := .str y) ?_))) (rd_addS ?_)).up k a
    · rw [List.map_dropLast]
    · rw [List.length_dropLast, e1]
      omega
    · omega
    · rw [len_app]
      omega
    · rw [len_app, len_app]
      omega
    · rw [List.getLast?_map, hy]
      rfl
    · show _ + y.length ≤ _
      rw [len_app, len_app, len_app]
      omega
abbrev N_joined_names : List Str := ["texts"]
theorem sc_joined_names : FnScope N_joined_names ["texts"] (defScope s_joined_names) := ⟨rfl, rfl, rfl, by decide +kernel, rfl, by decide +kernel, by decide +kernel⟩
theorem d_joined_names {P : Program} {w : World} {K : PySem.W.Frag} {mg : Str → Option Value} {base : Heap} {S W : Addr} {f : Addr} {fd : FuncData} (F : FunW K "joined_names" "joined_names" s_joined_names f fd) (T : Txt K mg S W)
    (c1 : CalF P w K mg base "joined_by" 1 ["texts", "word"] (SpD F_joinby)) : FnOk P w K mg base CX0 2 f fd ["texts"] (SpD F_join) := by
  obtain ⟨_, _, G1, M1, K1, B1⟩ := c1.ex
  refine F.ok sc_joined_names (SpD.len (by rintro ds d ⟨xs, hs, rfl, rfl⟩; rfl)) (fun cdv A outer s0 H vs Q E hr h => ?_)
  have hu := hu_of hr
  obtain ⟨O, ds, d, hd, hm, ⟨xs, hs, rfl, rfl⟩, k⟩ := h
  refine ⟨_, PSs.nox (pss_one (ps_ret (pe_call G1 (hr.mono (by decide)) rfl M1 K1 B1 .nil pass0 (pa_cons (pv 0) (pa_cons pe_str pa_nil))))), ?_⟩
  have a : At O H [some (.lst (xs.map .str))] none (L2.start N_joined_names vs) H := At.begin_ (N := N_joined_names) hm
  have e : ("and" : Str).length = 3 := by decide +kernel
  exact s_ret hd (ev_call (ea_cons (ev_var rfl) (ea_cons ev_str ea_nil)) ⟨xs, "and", hs, by omega, rfl, rfl⟩).up k a
end Wt

namespace Wt
open PySem PySem.Spec PyProof.Rows L2
abbrev N_ways_line : List Str := ["world", "state", "found", "place", "direction", "other", "door"]
theorem sc_ways_line : FnScope N_ways_line ["world", "state"] (defScope s_ways_line) := ⟨rfl, rfl, rfl, by decide +kernel, rfl, by decide +kernel, by decide +kernel⟩
theorem d_ways_line {P : Program} {w : World} {K : PySem.W.Frag} {mg : Str → Option Value} {base : Heap} {S W : Addr} {f : Addr} {fd : FuncData} (F : FunW K "ways_line" "ways_line" s_ways_line f fd) (T : Txt K mg S W)
    (c1 : CalM P w K mg base W "told" 1 ["self"] (SpD (F_wtold W)))
    (c2 : CalM P w K mg base S "here" 1 ["self"] (SpD (F_here S W)))
    (c3 : CalM P w K mg base S "is_open" 2 ["self", "thing"] (SpD (F_isopen S W))) : FnOk P w K mg base CX0 3 f fd ["world", "state"] (SpN (F_waysl S W)) := by
  obtain ⟨_, _, G1, M1, B1⟩ := c1.ex
  obtain ⟨_, _, G2, M2, B2⟩ := c2.ex
  obtain ⟨_, _, G3, M3, B3⟩ := c3.ex
  refine F.ok sc_ways_line (SpN.len (by rintro ds d ⟨m, s, wf, rfl, rfl⟩; rfl)) (fun cdv A outer s0 H vs Q E hr h => ?_)
  have hu := hu_of hr
  obtain ⟨O, ds, d, hd, hm, ⟨m, s, wf, rfl, rfl⟩, k⟩ := h
  refine ⟨_, PSs.nox (pss_cons (ps_set (i := 2) sc_ways_line.nd rfl (Or.inl rfl) (pe_lst pa_nil))
    (pss_cons (ps_for PassesOwn.never rfl (kList (K := K) (pe_ix (kIxT (K := K)) (pe_meth0 (pv 0) T.clW M1 G1 (hr.mono (by decide)) B1 .nil pass0) pe_int (fun _ _ => rfl))) (kTupG (K := K) (by rfl) (pgs_cons (pg_name (i := 3) sc_ways_line.nd rfl (Or.inl rfl)) (pgs_cons (pg_name (i := 4) sc_ways_line.nd rfl (Or.inl rfl)) (pgs_cons (pg_name (i := 5) sc_ways_line.nd rfl (Or.inl rfl)) (pgs_cons (pg_name (i := 6) sc_ways_line.nd rfl (Or.inl rfl)) pgs_nil))))) (pss_one (ps_if (pt_cmpR op_eq (pv 3) (pe_meth0 (pv 1) T.clS M2 G2 (hr.mono (by decide)) B2 .nil pass0) (by rfl)) (pss_one (ps_expr (pe_bm PySem.F.plainAttrs_list PySem.F.slot_list_append PySem.F.type_list_append mt_append (pv 2) (pa_cons (pe_op op_add_str (pv 4) (pe_op op_repS pe_str (pe_callTy call_int1 (by rfl) T.int (by decide +kernel) (pa_cons (pe_and (pe_cmpR op_ne (pv 6) pe_str (by rfl)) (pe_one (pe_not (pe_meth (pv 1) T.clS M3 G3 (hr.mono (by decide)) B3 .nil pass0 (pa_cons (pv 6) pa_nil))))) pa_nil)))) pa_nil)))) pss_nil)))
    (pss_one (ps_ret (pe_ifExp (pt_cmpR (kNeD (K := K) hr.units) (pv 2) (pe_lst pa_nil) (by rfl)) (pe_lst (pa_cons (pe_op op_add_str (pe_op op_add_str pe_str (kJoin (K := K) pe_str (pe_callB (kSorted (K := K)) (by rfl) T.sorted (by decide +kernel) (pa_cons (pv 2) pa_nil)))) pe_str) pa_nil)) (pe_lst pa_nil)))))), ?_⟩
  have a : At O H [some (woD W m), some (stD S W m s), none, none, none, none, none] none (L2.start N_ways_line vs) H := At.begin_ (N := N_ways_line) hm
  have wm := wf.wm
  have hwl := ways_len (s := s) wm
  have hwo := ways_ok (s := s) wm
  refine s_seq (s_new hd (en_lst ea_nil (Nat.zero_le _)) (Nat.le_of_ble_eq_true rfl) (fun σ H1 a => ?_) a)
  refine s_seq (s_for Way.d m.ways hd (ev_op (ev_meth (fs := wfs m) (ev_var rfl) (w_no (by decide +kernel)) ea_nil ⟨m, wm, rfl, rfl⟩) ev_int (rd_ixT (d := .lst (m.ways.map Way.d)) rfl)).up (fun _ => [some (woD W m), some (stD S W m s), none, none, none, none, none])
    (fun i => some (2, .L ((((m.ways.take i).filter fun y => decide (y.src = s.here)).map (wayT s)).map .str))) (fun _ => True) (fun y ρ => (((ρ.set 3 (some (.str y.src))).set 4 (some (.str y.dir))).set 5 (some (.str y.dst))).set 6 (some (.str y.door))) [3, 4, 5, 6]
    (fun y _ => tg_tup (tgs_cons tg_name (tgs_cons tg_name (tgs_cons tg_name (tgs_cons tg_name tgs_nil)))) rfl) (fun n i z => by cases z; decide) rfl rfl trivial (fun Hb sb db i y hi _ σ H1 a => ?_) (fun _ σ H1 a => ?_) a)
  · have hy := List.mem_of_getElem? hi
    have ft := filter_take (fun y : Way => decide (y.src = s.here)) m.ways hi
    have wk : ∀ {c σ H1}, At O Hb [some (woD W m), some (stD S W m s), none, some (.str y.src), some (.str y.dir), some (.str y.dst), some (.str y.door)] (some (2, c)) σ H1 → At O Hb [some (woD W m), some (stD S W m s), none, none, none, none, none] (some (2, c)) σ H1 := fun a => a.weak (.keep (.keep (.keep (.drop (.drop (.drop (.drop .nil)))))))
    refine s_if (b := decide (y.src = s.here)) db (et_test (ev_op (ev_var rfl) (ev_meth (fs := sfs W m s) (ev_var rfl) (s_no (by decide +kernel)) ea_nil ⟨m, s, wf, rfl, rfl⟩) rd_eqS)).up (fun hb σ H1 a => ?_) (fun hb σ H1 a => ⟨trivial, ?_⟩) a
    · refine s_app (d := .str (wayT s y)) db (EvD.up (ev_op (ev_var rfl) (ev_op ev_str (ev_cb (ea_cons (ev_andV (b := !opn s y.door) (ev_op (ev_var rfl) ev_str rd_neS) (fun hne => ev_notV (ev_meth (fs := sfs W m s) (ev_var rfl) (s_no (by decide +kernel)) (ea_cons (ev_var rfl) ea_nil) ⟨m, s, y.door, wf, rfl, ?_, rfl⟩))) ea_nil) cd_intB) (rd_repS (r := !decide (y.door = Str.empty) && !opn s y.door) (by decide +kernel))) (rd_addS ?_))) ?_ (fun σ H1 a => ⟨trivial, ?_⟩) a
      · rcases wm.ydoor y hy with e | ⟨t, ht, e, _⟩
        · rw [e] at hne
          exact absurd hne (by decide +kernel)
        · rw [← e]
          exact List.mem_map.mpr ⟨t, ht, rfl⟩
      · have h1 := dir_len (wm.ydir y hy)
        have e : (" (shut)" : Str).length = 7 := by decide +kernel
        have e0 : Str.empty.length = 0 := rfl
        split <;> omega
      · rw [List.length_map, List.length_map]
        exact Nat.lt_of_le_of_lt (Nat.le_trans (List.length_filter_le ..) (by rw [List.length_take]; exact Nat.min_le_right ..)) (Nat.lt_of_le_of_lt wm.yl (by decide))
      · rw [ft, if_pos hb, List.map_append, List.map_append]
        exact wk a
    · rw [ft, if_neg (show ¬ decide (y.src = s.here) = true by rw [hb]; decide), List.append_nil]
      exact wk a
  · rw [List.take_of_length_le (Nat.le_refl _)] at a
    have a := a.freeze hd
    have e1 : (", " : Str).length = 2 := by decide +kernel
    have e2 : ("Ways: " : Str).length = 6 := by decide +kernel
    have e3 : ("." : Str).length = 1 := by decide +kernel
    have hs1 := sum_le 20 (srt (waysP m s)) (fun x hx => (hwl.2 x ((srt_perm _).mem_iff.mp hx)))
    have hs2 := (srt_perm (waysP m s)).length_eq
    have hs3 := hwl.1
    have hs4 : (srt (waysP m s)).length ≤ 14 := by omega
    have hs5 : ((srt (waysP m s)).map (·.length)).sum ≤ 280 := Nat.le_trans hs1 (by omega)
    have hJ : (Txt.join ", " (srt (waysP m s))).length ≤ 1000 := by
      rw [len_join, e1]
      omega
    refine s_retN hd (en_if (b := !(waysP m s).isEmpty) (et_test (ev_op (ev_var rfl) (EvN.toD (en_lst ea_nil (Nat.zero_le _))) (rd_neNil hwo))) (fun hb => ?_) (fun hb => ?_)) k a
    · have hne : ¬ waysP m s = [] := fun z => by rw [z] at hb; cases hb
      have e : waysLineP m s = [("Ways: " : Str) ++ Txt.join ", " (srt (waysP m s)) ++ "."] := by unfold waysLineP; rw [if_neg hne]
      rw [e]
      refine en_lst (ea_cons (ev_op (ev_op ev_str (ev_join ev_str (EvN.toD (en_cb (ea_cons (ev_var rfl) ea_nil) (cn_sorted ?_))) ?_) (rd_addS ?_)) ev_str (rd_addS ?_)) ea_nil) (by show 1 ≤ 100000; decide)
      · exact Nat.lt_of_le_of_lt hs3 (by decide)
      · show ((srt (waysP m s)).map (·.length)).sum + (srt (waysP m s)).length * (", " : Str).length ≤ _
        rw [e1]
        omega
      · show ("Ways: " : Str).length + (Txt.join ", " (srt (waysP m s))).length ≤ _
        omega
      · show (("Ways: " : Str) ++ Txt.join ", " (srt (waysP m s))).length + ("." : Str).length ≤ _
        rw [len_app]
        omega
    · have hne : waysP m s = [] := by
        cases q : waysP m s with
        | nil => rfl
        | cons x r => rw [q] at hb; cases hb
      have e : waysLineP m s = [] := by unfold waysLineP; rw [if_pos hne]
      rw [e]
      exact en_lst ea_nil (Nat.zero_le _)
abbrev N_held_line : List Str := ["world", "state", "holder", "seen", "links", "held", "word", "thing"]
theorem sc_held_line : FnScope N_held_line ["world", "state", "holder", "seen"] (defScope s_held_line) := ⟨rfl, rfl, rfl, by decide +kernel, rfl, by decide +kernel, by decide +kernel⟩
theorem d_held_line {P : Program} {w : World} {K : PySem.W.Frag} {mg : Str → Option Value} {base : Heap} {S W : Addr} {f : Addr} {fd : FuncData} (F : FunW K "held_line" "held_line" s_held_line f fd) (T : Txt K mg S W)
    (c1 : CalM P w K mg base S "where" 2 ["self", "thing"] (SpD (F_where S W)))
    (c2 : CalF P w K mg base "the_name" 3 ["world", "thing"] (SpD (F_the W)))
    (c3 : CalF P w K mg base "joined_names" 2 ["texts"] (SpD F_join))
    (c4 : CalF P w K mg base "a_name" 3 ["world", "thing"] (SpD (F_a W))) : FnOk P w K mg base CX0 4 f fd ["world", "state", "holder", "seen"] (SpN (F_heldl S W)) := by
  obtain ⟨_, _, G1, M1, B1⟩ := c1.ex
  obtain ⟨_, _, G2, M2, K2, B2⟩ := c2.ex
  obtain ⟨_, _, G3, M3, K3, B3⟩ := c3.ex
  obtain ⟨_, _, G4, M4, K4, B4⟩ := c4.ex
  refine F.ok sc_held_line (SpN.len (by rintro ds d ⟨m, s, h, wf, rfl, hh, rfl⟩; rfl)) (fun cdv A outer s0 H vs Q E hr h => ?_)
  have hu := hu_of hr
  have hu65 : (A.deeper (envOfC "held_line" (defScope s_held_line) s0.heap.objs.size f cdv)).units + 65 < cLine := by have := hr.un; omega
  obtain ⟨O, ds, d, hd, hm, ⟨m, s, h, wf, rfl, hh, rfl⟩, k⟩ := h
  refine ⟨_, PSs.nox (pss_cons (ps_set (i := 4) sc_held_line.nd rfl (Or.inr rfl) (pe_lst (pa_cons (pe_tup (pa_cons pe_str (pa_cons (pv 2) pa_nil))) (pa_cons (pe_tup (pa_cons pe_str (pa_cons (pv 2) pa_nil))) pa_nil))))
    (pss_cons (ps_setLc (i := 5) (own := [("thing", 7)]) (g := (gName 7)) rfl sc_held_line.nd rfl rfl (sw_true rfl rfl rfl (by decide +kernel)) (kList (K := K) (pv 3)) (blkOk_by (own := [("thing", 7)]) (N := N_held_line) (sc := defScope s_held_line) (by decide +kernel)) (fun _ _ _ _ _ => (pg_name (i := 7) sc_held_line.nd rfl (Or.inl rfl))) (fun _ _ _ _ _ => (pts_one (pt_cmpR (kInD (K := K) hu65) (pe_meth (pv 1) T.clS M1 G1 (hr.mono (by decide)) B1 .nil pass0 (pa_cons (pv 7) pa_nil)) (pv 4) (by rfl)))) (fun _ _ _ _ _ => (pv 7)))
    (pss_cons (ps_if (pt_cmpR (kEqD (K := K) hr.units) (pv 5) (pe_lst pa_nil) (by rfl)) (pss_one (ps_ret (pe_lst pa_nil))) pss_nil)
    (pss_cons (ps_set (i := 6) sc_held_line.nd rfl (Or.inl rfl) (pe_ifExp (pt_cmpR op_eq (pe_ix (kIxT (K := K)) (pe_meth (pv 1) T.clS M1 G1 (hr.mono (by decide)) B1 .nil pass0 (pa_cons (pe_ix (kIxL (K := K)) (pv 5) pe_int (fun _ _ => rfl)) pa_nil)) pe_int (fun _ _ => rfl)) pe_str (by rfl)) pe_str pe_str))
    (pss_one (ps_ret (pe_lst (pa_cons (pe_op op_add_str (pe_op op_add_str (pe_op op_add_str (pe_op op_add_str (pv 6) (pe_call G2 (hr.mono (by decide)) rfl M2 K2 B2 .nil pass0 (pa_cons (pv 0) (pa_cons (pv 2) pa_nil)))) pe_str) (pe_call G3 (hr.mono (by decide)) rfl M3 K3 B3 .nil pass0 (pa_cons (pe_lc (own := [("thing", 7)]) (g := (gName 7)) (tt := tYes) rfl sc_held_line.nd (kList (K := K) (pv 5)) (blkOk_by (own := [("thing", 7)]) (N := N_held_line) (sc := defScope s_held_line) (by decide +kernel)) (fun _ _ _ _ _ => (pg_name (i := 7) sc_held_line.nd rfl (Or.inl rfl))) (fun _ _ _ _ _ => pts_nil) (fun _ _ _ _ _ => (pe_call G4 (hr.mono (by decide)) rfl M4 K4 B4 .nil pass0 (pa_cons (pv 0) (pa_cons (pv 7) pa_nil))))) pa_nil))) pe_str) pa_nil)))))))), ?_⟩
  have a : At O H [some (woD W m), some (stD S W m s), some (.str h), some (.lst ((seenF m s).map .str)), none, none, none, none] none (L2.start N_held_line vs) H := At.begin_ (N := N_held_line) hm
  have wm := wf.wm
  have lok : ∀ w, w ∈ [Wh.in_ h, Wh.on_ h] → w.ok = true := fun w hw => by
    rcases List.mem_cons.mp hw with e | hw
    · rw [e]
      exact wm.inOk hh
    · rw [List.mem_singleton.mp hw]
      exact wm.onOk hh
  have hsub : ∀ x, x ∈ heldP s h (seenF m s) → x ∈ m.names := fun x hx => seen_sub (List.mem_filter.mp hx).1
  have hlen : (heldP s h (seenF m s)).length ≤ 12 := Nat.le_trans (List.length_filter_le ..) (seen_len wm)
  refine s_seq (s_asg hd (EvN.toD (ds := [Wh.in_ h, Wh.on_ h].map Wh.d) (en_lst (ea_cons (ev_inp (ev_var rfl)) (ea_cons (ev_onp (ev_var rfl)) ea_nil)) (by show 2 ≤ 100000; decide))).up (by decide) (fun σ H1 a => ?_) a)
  refine s_seq (s_asg hd (EvN.toD (en_lc D.str (seenF m s) (fun x ρ => ρ.set 7 (some (.str x))) (fun x => decide (whF s x ∈ [Wh.in_ h, Wh.on_ h])) D.str (ev_var rfl) (Nat.lt_of_le_of_lt (seen_len wm) (by decide)) (fun _ _ => tg_name) (fun x hx => et_test (ev_op (ev_meth (fs := sfs W m s) (ev_var rfl) (s_no (by decide +kernel)) (ea_cons (ev_var rfl) ea_nil) ⟨m, s, x, wf, rfl, seen_sub hx, rfl⟩) (ev_var rfl) (rd_inW (wf.whok (wf.whF (seen_sub hx))) lok))) (fun x hx _ => ev_var rfl))).up (by decide) (fun σ H1 a => ?_) a)
  have a : At O H [some (woD W m), some (stD S W m s), some (.str h), some (.lst ((seenF m s).map .str)), some (.lst ([Wh.in_ h, Wh.on_ h].map Wh.d)), some (.lst ((heldP s h (seenF m s)).map .str)), none, none] none σ H1 := a
  refine (q_when (b := (heldP s h (seenF m s)).isEmpty) hd (et_test (ev_op (ev_var rfl) (EvN.toD (en_lst ea_nil (Nat.zero_le _))) (rd_eqNil (names_ok wm hsub)))).up (fun hb σ H1 a => ?_) (fun hb σ H1 a => ?_) a)
  · have e : heldLineP m s h (seenF m s) = [] := by
      unfold heldLineP
      cases q : heldP s h (seenF m s) with
      | nil => rfl
      | cons x r => rw [q] at hb; cases hb
    rw [e] at k
    exact s_retN hd (en_lst ea_nil (Nat.zero_le _)) k a
  · cases q : heldP s h (seenF m s) with
    | nil => rw [q] at hb; cases hb
    | cons x r =>
      have e : heldLineP m s h (seenF m s) = [(if isIn (whF s x) then ("In " : Str) else "On ") ++ theF m h ++ ": " ++ joinP ((x :: r).map (aF m)) "and" ++ "."] := by
        unfold heldLineP
        rw [q]
      rw [e] at k
      rw [q] at a hsub hlen
      have hx := hsub x (by simp)
      have e1 : ("In " : Str).length = 3 := by decide +kernel
      have e2 : ("On " : Str).length = 3 := by decide +kernel
      have e3 : (": " : Str).length = 2 := by decide +kernel
      have e4 : ("." : Str).length = 1 := by decide +kernel
      have e5 : ("and" : Str).length = 3 := by decide +kernel
      have hsh := short_a wm hsub (Nat.le_trans hlen (by decide))
      have hj := joinP_len (w := "and") hsh (by omega)
      have ht := the_len wm hh
      refine s_seq (s_asg (d := .str (if isIn (whF s x) then ("In " : Str) else "On ")) hd (EvD.up (ev_if (et_isin (w := whF s x) (ev_meth (fs := sfs W m s) (ev_var rfl) (s_no (by decide +kernel)) (ea_cons (ev_op (ev_var rfl) ev_int (rd_ixL (d := .str x) (atI_nat (j := 0) rfl))) ea_nil) ⟨m, s, x, wf, rfl, hx, rfl⟩)) (fun hb => ?_) (fun hb => ?_))) (by decide) (fun σ H1 a => ?_) a)
      · rw [hb]
        exact ev_str
      · rw [hb]
        exact ev_str
      · refine s_retN hd (en_lst (ea_cons (ev_op (ev_op (ev_op (ev_op (ev_var rfl) (ev_call (ea_cons (ev_var rfl) (ea_cons (ev_var rfl) ea_nil)) ⟨m, h, wm, rfl, hh, rfl⟩) (rd_addS ?_)) ev_str (rd_addS ?_)) (ev_call (ea_cons ((EvN.toD (en_map D.str (x :: r) (fun x ρ => ρ.set 7 (some (.str x))) (fun x => .str (aF m x)) (ev_var rfl) (Nat.lt_of_le_of_lt hlen (by decide)) (fun _ _ => tg_name) (fun y hy => ev_call (ea_cons (ev_var rfl) (ea_cons (ev_var rfl) ea_nil)) ⟨m, y, wm, rfl, hsub y hy, rfl⟩))).is ?_) ea_nil) ⟨(x :: r).map (aF m), hsh, rfl, rfl⟩) (rd_addS ?_)) ev_str (rd_addS ?_)) ea_nil) (by show 1 ≤ 100000; decide)) k a
        · split <;> omega
        · rw [len_app]
          split <;> omega
        · rw [List.map_map]
          rfl
        · rw [len_app, len_app]
          split <;> omega
        · rw [len_app, len_app, len_app]
          split <;> omega
abbrev N_look_lines : List Str := ["world", "state", "place", "seen", "found", "lying", "holder", "thing"]
theorem sc_look_lines : FnScope N_look_lines ["world", "state"] (defScope s_look_lines) := ⟨rfl, rfl, rfl, by decide +kernel, rfl, by decide +kernel, by decide +kernel⟩
theorem d_look_lines {P : Program} {w : World} {K : PySem.W.Frag} {mg : Str → Option Value} {base : Heap} {S W : Addr} {f : Addr} {fd : FuncData} (F : FunW K "look_lines" "look_lines" s_look_lines f fd) (T : Txt K mg S W)
    (c1 : CalM P w K mg base S "here" 1 ["self"] (SpD (F_here S W)))
    (c2 : CalF P w K mg base "is_lit" 5 ["state", "place"] (SpD (F_lit S W)))
    (c3 : CalF P w K mg base "seen_things" 6 ["state"] (SpN (F_seen S W)))
    (c4 : CalF P w K mg base "ways_line" 3 ["world", "state"] (SpN (F_waysl S W)))
    (c5 : CalM P w K mg base S "where" 2 ["self", "thing"] (SpD (F_where S W)))
    (c6 : CalF P w K mg base "doors_at" 3 ["state", "place"] (SpN (F_doors S W)))
    (c7 : CalF P w K mg base "joined_names" 2 ["texts"] (SpD F_join))
    (c8 : CalF P w K mg base "a_name" 3 ["world", "thing"] (SpD (F_a W)))
    (c9 : CalF P w K mg base "held_line" 4 ["world", "state", "holder", "seen"] (SpN (F_heldl S W))) : FnOk P w K mg base CX0 7 f fd ["world", "state"] (SpN (F_look S W)) := by
  obtain ⟨_, _, G1, M1, B1⟩ := c1.ex
  obtain ⟨_, _, G2, M2, K2, B2⟩ := c2.ex
  obtain ⟨_, _, G3, M3, K3, B3⟩ := c3.ex
  obtain ⟨_, _, G4, M4, K4, B4⟩ := c4.ex
  obtain ⟨_, _, G5, M5, B5⟩ := c5.ex
  obtain ⟨_, _, G6, M6, K6, B6⟩ := c6.ex
  obtain ⟨_, _, G7, M7, K7, B7⟩ := c7.ex
  obtain ⟨_, _, G8, M8, K8, B8⟩ := c8.ex
  obtain ⟨_, _, G9, M9, K9, B9⟩ := c9.ex
  refine F.ok sc_look_lines (SpN.len (by rintro ds d ⟨m, s, wf, rfl, rfl⟩; rfl)) (fun cdv A outer s0 H vs Q E hr h => ?_)
  have hu := hu_of hr
  obtain ⟨O, ds, d, hd, hm, ⟨m, s, wf, rfl, rfl⟩, k⟩ := h
  refine ⟨_, PSs.nox (pss_cons (ps_set (i := 2) sc_look_lines.nd rfl (Or.inr rfl) (pe_meth0 (pv 1) T.clS M1 G1 (hr.mono (by decide)) B1 .nil pass0))
    (pss_cons (ps_if (pt_not (pt_val (pe_call G2 (hr.mono (by decide)) rfl M2 K2 B2 .nil pass0 (pa_cons (pv 1) (pa_cons (pv 2) pa_nil))))) (pss_one (ps_ret (pe_lst (pa_cons pe_str pa_nil)))) pss_nil)
    (pss_cons (ps_set (i := 3) sc_look_lines.nd rfl (Or.inl rfl) (pe_call G3 (hr.mono (by decide)) rfl M3 K3 B3 .nil pass0 (pa_cons (pv 1) pa_nil)))
    (pss_cons (ps_set (i := 4) sc_look_lines.nd rfl (Or.inl rfl) (pe_op op_cat (pe_lst (pa_cons (pe_op op_add_str (pv 2) pe_str) pa_nil)) (pe_call G4 (hr.mono (by decide)) rfl M4 K4 B4 .nil pass0 (pa_cons (pv 0) (pa_cons (pv 1) pa_nil)))))
    (pss_cons (ps_set (i := 5) sc_look_lines.nd rfl (Or.inl rfl) (pe_op op_cat (pe_lc (own := [("thing", 7)]) (g := (gName 7)) rfl sc_look_lines.nd (kList (K := K) (pv 3)) (blkOk_by (own := [("thing", 7)]) (N := N_look_lines) (sc := defScope s_look_lines) (by decide +kernel)) (fun _ _ _ _ _ => (pg_name (i := 7) sc_look_lines.nd rfl (Or.inl rfl))) (fun _ _ _ _ _ => (pts_one (pt_cmpR (kEqD (K := K) hr.units) (pe_meth (pv 1) T.clS M5 G5 (hr.mono (by decide)) B5 .nil pass0 (pa_cons (pv 7) pa_nil)) (pe_tup (pa_cons pe_str (pa_cons (pv 2) pa_nil))) (by rfl)))) (fun _ _ _ _ _ => (pv 7))) (pe_call G6 (hr.mono (by decide)) rfl M6 K6 B6 .nil pass0 (pa_cons (pv 1) (pa_cons (pv 2) pa_nil)))))
    (pss_cons (ps_if (pt_cmpR (kNeD (K := K) hr.units) (pv 5) (pe_lst pa_nil) (by rfl)) (pss_one (ps_expr (pe_bm PySem.F.plainAttrs_list PySem.F.slot_list_append PySem.F.type_list_append mt_append (pv 4) (pa_cons (pe_op op_add_str (pe_op op_add_str pe_str (pe_call G7 (hr.mono (by decide)) rfl M7 K7 B7 .nil pass0 (pa_cons (pe_lc (own := [("thing", 7)]) (g := (gName 7)) (tt := tYes) rfl sc_look_lines.nd (kList (K := K) (pv 5)) (blkOk_by (own := [("thing", 7)]) (N := N_look_lines) (sc := defScope s_look_lines) (by decide +kernel)) (fun _ _ _ _ _ => (pg_name (i := 7) sc_look_lines.nd rfl (Or.inl rfl))) (fun _ _ _ _ _ => pts_nil) (fun _ _ _ _ _ => (pe_call G8 (hr.mono (by decide)) rfl M8 K8 B8 .nil pass0 (pa_cons (pv 0) (pa_cons (pv 7) pa_nil))))) pa_nil))) pe_str) pa_nil)))) pss_nil)
    (pss_cons (ps_for PassesOwn.never rfl (kList (K := K) (pv 3)) (pg_name (i := 6) sc_look_lines.nd rfl (Or.inl rfl)) (pss_one (ps_expr (pe_bm PySem.F.plainAttrs_list PySem.F.slot_list_extend PySem.F.type_list_extend mt_extend (pv 4) (pa_cons (pe_call G9 (hr.mono (by decide)) rfl M9 K9 B9 .nil pass0 (pa_cons (pv 0) (pa_cons (pv 1) (pa_cons (pv 6) (pa_cons (pv 3) pa_nil))))) pa_nil)))))
    (pss_one (ps_ret (pv 4)))))))))), ?_⟩
  have a : At O H [some (woD W m), some (stD S W m s), none, none, none, none, none, none] none (L2.start N_look_lines vs) H := At.begin_ (N := N_look_lines) hm
  have wm := wf.wm
  have hp := wf.hk
  refine s_seq (s_asg hd (ev_meth (fs := sfs W m s) (ev_var rfl) (s_no (by decide +kernel)) ea_nil ⟨m, s, wf, rfl, rfl⟩).up (by decide) (fun σ H1 a => ?_) a)
  refine (q_when (b := !litF m s s.here) hd (et_not (et_B (ev_call (ea_cons (ev_var rfl) (ea_cons (ev_var rfl) ea_nil)) ⟨m, s, _, wf, rfl, hp, rfl⟩))).up (fun hb σ H1 a => ?_) (fun hb σ H1 a => ?_) a)
  · have e : lookP m s = (["It is dark."] : List Str) := by
      unfold lookP
      rw [if_neg (by intro z; rw [z] at hb; cases hb)]
    rw [e] at k
    exact s_retN hd (en_lst (ea_cons ev_str ea_nil) (by show 1 ≤ 100000; decide)) k a
  have hlit : litF m s s.here = true := by
    cases q : litF m s s.here with
    | true => rfl
    | false => rw [q] at hb; cases hb
  have hseen := seen_len (s := s) wm
  have hpl := (wm.pnameOk hp).2.1
  have e1 : ("." : Str).length = 1 := by decide +kernel
  have e2 : ("Here: " : Str).length = 6 := by decide +kernel
  have e3 : ("and" : Str).length = 3 := by decide +kernel
  have hwl : (waysLineP m s).length ≤ 1 := by unfold waysLineP; split <;> simp
  refine s_seq (s_asg hd (EvN.toD (en_call (ea_cons (ev_var rfl) ea_nil) ⟨m, s, wf, rfl, rfl⟩)).up (by decide) (fun σ H1 a => ?_) a)
  refine s_seq (s_new hd (en_op (EvN.toD (en_lst (ea_cons (ev_op (ev_var rfl) ev_str (rd_addS (by omega))) ea_nil) (by show 1 ≤ 100000; decide))) (EvN.toD (en_call (ea_cons (ev_var rfl) (ea_cons (ev_var rfl) ea_nil)) ⟨m, s, wf, rfl, rfl⟩)) (rn_cat ?_)) (Nat.le_of_ble_eq_true rfl) (fun σ H1 a => ?_) a)
  · rw [List.length_map]
    show 1 + _ ≤ _
    omega
  refine s_seq (s_asg (d := .lst ((lyingP m s).map .str)) hd (EvD.up ((EvN.toD (en_op (EvN.toD (en_lc D.str (seenF m s) (fun x ρ => ρ.set 7 (some (.str x))) (fun x => decide (whF s x = .at_ s.here)) D.str (ev_var rfl) (Nat.lt_of_le_of_lt hseen (by decide)) (fun _ _ => tg_name) (fun x hx => et_test (ev_op (ev_meth (fs := sfs W m s) (ev_var rfl) (s_no (by decide +kernel)) (ea_cons (ev_var rfl) ea_nil) ⟨m, s, x, wf, rfl, seen_sub hx, rfl⟩) (ev_at (ev_var rfl)) (rd_eqW (wf.whok (wf.whF (seen_sub hx))) (wm.placeOk hp)))) (fun x hx _ => ev_var rfl))) (EvN.toD (en_call (ea_cons (ev_var rfl) (ea_cons (ev_var rfl) ea_nil)) ⟨m, s, _, wf, rfl, hp, rfl⟩)) (rn_cat ?_))).is ?_)) (by simp [wslot]) (fun σ H1 a => ?_) a)
  · rw [List.length_map, List.length_map]
    have h1 := List.length_filter_le (fun x => decide (whF s x = .at_ s.here)) (seenF m s)
    have h2 := doors_len wm s.here
    omega
  · unfold lyingP
    rw [List.map_append]
  have hll := lying_len (s := s) wm
  have hsub : ∀ x, x ∈ lyingP m s → x ∈ m.names := fun x hx => lying_sub hx
  have hsh := short_a wm hsub hll
  have hj := joinP_len (w := "and") hsh (by omega)
  have a : At O H [some (woD W m), some (stD S W m s), some (.str s.here), some (.lst ((seenF m s).map .str)), none, some (.lst ((lyingP m s).map .str)), none, none] (some (4, .L (([s.here ++ "."] ++ waysLineP m s).map .str))) σ H1 := by
    rw [List.map_append]
    exact a
  refine s_seq (s_ifJ (b := !(lyingP m s).isEmpty) (ρ' := [some (woD W m), some (stD S W m s), some (.str s.here), some (.lst ((seenF m s).map .str)), none, some (.lst ((lyingP m s).map .str)), none, none]) (wn' := some (4, .L ((([s.here ++ "."] ++ waysLineP m s) ++ (if lyingP m s = [] then [] else [("Here: " : Str) ++ joinP ((lyingP m s).map (aF m)) "and" ++ "."])).map .str))) hd
    (et_test (ev_op (ev_var rfl) (EvN.toD (en_lst ea_nil (Nat.zero_le _))) (rd_neNil (names_ok wm hsub)))).up (fun hb kk σ H1 a => ?_) (fun hb kk σ H1 a => ?_) (fun σ H1 a => ?_) a)
  · have hne : ¬ lyingP m s = [] := fun z => by rw [z] at hb; cases hb
    refine s_app hd (EvD.up (ev_op (ev_op ev_str (ev_call (ea_cons ((EvN.toD (en_map D.str (lyingP m s) (fun x ρ => ρ.set 7 (some (.str x))) (fun x => .str (aF m x)) (ev_var rfl) (Nat.lt_of_le_of_lt hll (by decide)) (fun _ _ => tg_name) (fun y hy => ev_call (ea_cons (ev_var rfl) (ea_cons (ev_var rfl) ea_nil)) ⟨m, y, wm, rfl, hsub y hy, rfl⟩))).is ?_) ea_nil) ⟨(lyingP m s).map (aF m), hsh, rfl, rfl⟩) (rd_addS ?_)) ev_str (rd_addS ?_))) ?_ (fun σ H1 a => kk σ H1 ?_) a
    · rw [List.map_map]
      rfl
    · omega
    · rw [len_app]
      omega
    · rw [List.length_map, List.length_append]
      show 1 + _ < _
      omega
    · rw [if_neg hne, List.map_append]
      exact a
  · refine kk σ H1 ?_
    have hne : lyingP m s = [] := by
      cases q : lyingP m s with
      | nil => rfl
      | cons x r => rw [q] at hb; cases hb
    rw [if_pos hne, List.append_nil]
    exact a
  generalize hB : ([s.here ++ "."] ++ waysLineP m s) ++ (if lyingP m s = [] then [] else [("Here: " : Str) ++ joinP ((lyingP m s).map (aF m)) "and" ++ "."]) = B at a
  have hBl : B.length ≤ 3 := by
    rw [← hB, List.length_append, List.length_append]
    have : (if lyingP m s = [] then [] else [("Here: " : Str) ++ joinP ((lyingP m s).map (aF m)) "and" ++ "."]).length ≤ 1 := by split <;> simp
    show 1 + _ + _ ≤ _
    omega
  have hf : ∀ l : List Str, (l.flatMap fun h => heldLineP m s h (seenF m s)).length ≤ l.length := fun l => by
    induction l with
    | nil => simp
    | cons y r ih =>
      rw [List.flatMap_cons, List.length_append, List.length_cons]
      have : (heldLineP m s y (seenF m s)).length ≤ 1 := by unfold heldLineP; split <;> simp
      omega
  refine s_seq (s_for D.str (seenF m s) hd (ev_var rfl).up (fun _ => [some (woD W m), some (stD S W m s), some (.str s.here), some (.lst ((seenF m s).map .str)), none, some (.lst ((lyingP m s).map .str)), none, none]) (fun i => some (4, .L ((B ++ ((seenF m s).take i).flatMap fun h => heldLineP m s h (seenF m s)).map .str))) (fun _ => True) (fun x ρ => ρ.set 6 (some (.str x))) [6] (fun _ _ => tg_name) (fun n i z => by cases z; decide) rfl (by simp) trivial
    (fun Hb sb db i x hi _ σ H1 a => ?_) (fun _ σ H1 a => ?_) a)
  · have hx := seen_sub (List.mem_of_getElem? hi)
    have hil := (List.getElem?_eq_some_iff.mp hi).1
    refine s_ext (es := (heldLineP m s x (seenF m s)).map .str) db (EvD.up (EvN.toD (en_call (ea_cons (ev_var rfl) (ea_cons (ev_var rfl) (ea_cons (ev_var rfl) (ea_cons (ev_var rfl) ea_nil)))) ⟨m, s, x, wf, rfl, hx, rfl⟩))) ?_ (fun σ H1 a => ⟨trivial, ?_⟩) a
    · rw [List.length_map, List.length_map, List.length_append]
      have h1 := hf ((seenF m s).take i)
      have h2 : (heldLineP m s x (seenF m s)).length ≤ 1 := by unfold heldLineP; split <;> simp
      rw [List.length_take] at h1
      omega
    · have e : (seenF m s).take (i + 1) = (seenF m s).take i ++ [x] := by rw [List.take_add_one, hi]; rfl
      rw [e, List.flatMap_append, ← List.append_assoc, List.map_append]
      refine At.weak (ρ := [some (woD W m), some (stD S W m s), some (.str s.here), some (.lst ((seenF m s).map .str)), none, some (.lst ((lyingP m s).map .str)), some (.str x), none]) ?_ (.keep (.keep (.keep (.keep (.keep (.keep (.drop (.keep .nil))))))))
      simp only [List.flatMap_cons, List.flatMap_nil, List.append_nil]
      exact a
  · rw [List.take_of_length_le (Nat.le_refl _)] at a
    have e : lookP m s = B ++ (seenF m s).flatMap fun h => heldLineP m s h (seenF m s) := by
      unfold lookP
      rw [if_pos hlit, hB]
    rw [e] at k
    exact s_retO k a
abbrev N_hold_lines : List Str := ["world", "state", "mine", "held", "worn", "found", "row", "thing"]
theorem sc_hold_lines : FnScope N_hold_lines ["world", "state"] (defScope s_hold_lines) := ⟨rfl, rfl, rfl, by decide +kernel, rfl, by decide +kernel, by decide +kernel⟩
theorem d_hold_lines {P : Program} {w : World} {K : PySem.W.Frag} {mg : Str → Option Value} {base : Heap} {S W : Addr} {f : Addr} {fd : FuncData} (F : FunW K "hold_lines" "hold_lines" s_hold_lines f fd) (T : Txt K mg S W)
    (c1 : CalM P w K mg base W "told" 1 ["self"] (SpD (F_wtold W)))
    (c2 : CalM P w K mg base S "where" 2 ["self", "thing"] (SpD (F_where S W)))
    (c3 : CalF P w K mg base "a_name" 3 ["world", "thing"] (SpD (F_a W)))
    (c4 : CalM P w K mg base S "is_worn" 2 ["self", "thing"] (SpD (F_isworn S W)))
    (c5 : CalF P w K mg base "joined_names" 2 ["texts"] (SpD F_join)) : FnOk P w K mg base CX0 4 f fd ["world", "state"] (SpN (F_hold S W)) := by
  obtain ⟨_, _, G1, M1, B1⟩ := c1.ex
  obtain ⟨_, _, G2, M2, B2⟩ := c2.ex
  obtain ⟨_, _, G3, M3, K3, B3⟩ := c3.ex
  obtain ⟨_, _, G4, M4, B4⟩ := c4.ex
  obtain ⟨_, _, G5, M5, K5, B5⟩ := c5.ex
  refine F.ok sc_hold_lines (SpN.len (by rintro ds d ⟨m, s, wf, rfl, rfl⟩; rfl)) (fun cdv A outer s0 H vs Q E hr h => ?_)
  have hu := hu_of hr
  obtain ⟨O, ds, d, hd, hm, ⟨m, s, wf, rfl, rfl⟩, k⟩ := h
  refine ⟨_, PSs.nox (pss_cons (ps_setLc (i := 2) (own := [("row", 6)]) (g := (gName 6)) rfl sc_hold_lines.nd rfl rfl (sw_true rfl rfl rfl (by decide +kernel)) (kList (K := K) (pe_ix (kIxT (K := K)) (pe_meth0 (pv 0) T.clW M1 G1 (hr.mono (by decide)) B1 .nil pass0) pe_int (fun _ _ => rfl))) (blkOk_by (own := [("row", 6)]) (N := N_hold_lines) (sc := defScope s_hold_lines) (by decide +kernel)) (fun _ _ _ _ _ => (pg_name (i := 6) sc_hold_lines.nd rfl (Or.inl rfl))) (fun _ _ _ _ _ => (pts_one (pt_cmpR (kEqD (K := K) hr.units) (pe_meth (pv 1) T.clS M2 G2 (hr.mono (by decide)) B2 .nil pass0 (pa_cons (pe_ix (kIxT (K := K)) (pv 6) pe_int (fun _ _ => rfl)) pa_nil)) (pe_tup (pa_cons pe_str pa_nil)) (by rfl)))) (fun _ _ _ _ _ => (pe_ix (kIxT (K := K)) (pv 6) pe_int (fun _ _ => rfl))))
    (pss_cons (ps_setLc (i := 3) (own := [("thing", 7)]) (g := (gName 7)) rfl sc_hold_lines.nd rfl rfl (sw_true rfl rfl rfl (by decide +kernel)) (kList (K := K) (pv 2)) (blkOk_by (own := [("thing", 7)]) (N := N_hold_lines) (sc := defScope s_hold_lines) (by decide +kernel)) (fun _ _ _ _ _ => (pg_name (i := 7) sc_hold_lines.nd rfl (Or.inl rfl))) (fun _ _ _ _ _ => (pts_one (pt_not (pt_val (pe_meth (pv 1) T.clS M4 G4 (hr.mono (by decide)) B4 .nil pass0 (pa_cons (pv 7) pa_nil)))))) (fun _ _ _ _ _ => (pe_call G3 (hr.mono (by decide)) rfl M3 K3 B3 .nil pass0 (pa_cons (pv 0) (pa_cons (pv 7) pa_nil)))))
    (pss_cons (ps_setLc (i := 4) (own := [("thing", 7)]) (g := (gName 7)) rfl sc_hold_lines.nd rfl rfl (sw_true rfl rfl rfl (by decide +kernel)) (kList (K := K) (pv 2)) (blkOk_by (own := [("thing", 7)]) (N := N_hold_lines) (sc := defScope s_hold_lines) (by decide +kernel)) (fun _ _ _ _ _ => (pg_name (i := 7) sc_hold_lines.nd rfl (Or.inl rfl))) (fun _ _ _ _ _ => (pts_one (pt_val (pe_meth (pv 1) T.clS M4 G4 (hr.mono (by decide)) B4 .nil pass0 (pa_cons (pv 7) pa_nil))))) (fun _ _ _ _ _ => (pe_call G3 (hr.mono (by decide)) rfl M3 K3 B3 .nil pass0 (pa_cons (pv 0) (pa_cons (pv 7) pa_nil)))))
    (pss_cons (ps_set (i := 5) sc_hold_lines.nd rfl (Or.inl rfl) (pe_lst pa_nil))
    (pss_cons (ps_if (pt_cmpR (kNeD (K := K) hr.units) (pv 3) (pe_lst pa_nil) (by rfl)) (pss_one (ps_expr (pe_bm PySem.F.plainAttrs_list PySem.F.slot_list_append PySem.F.type_list_append mt_append (pv 5) (pa_cons (pe_op op_add_str (pe_op op_add_str pe_str (pe_call G5 (hr.mono (by decide)) rfl M5 K5 B5 .nil pass0 (pa_cons (pv 3) pa_nil))) pe_str) pa_nil)))) pss_nil)
    (pss_cons (ps_if (pt_cmpR (kNeD (K := K) hr.units) (pv 4) (pe_lst pa_nil) (by rfl)) (pss_one (ps_expr (pe_bm PySem.F.plainAttrs_list PySem.F.slot_list_append PySem.F.type_list_append mt_append (pv 5) (pa_cons (pe_op op_add_str (pe_op op_add_str pe_str (pe_call G5 (hr.mono (by decide)) rfl M5 K5 B5 .nil pass0 (pa_cons (pv 4) pa_nil))) pe_str) pa_nil)))) pss_nil)
    (pss_one (ps_ret (kOrT (K := K) (pv 5) (pe_one (pe_lst (pa_cons pe_str pa_nil)))))))))))), ?_⟩
  have a : At O H [some (woD W m), some (stD S W m s), none, none, none, none, none, none] none (L2.start N_hold_lines vs) H := At.begin_ (N := N_hold_lines) hm
  have wm := wf.wm
  have hml : (mineP m s).length ≤ 12 := Nat.le_trans (List.length_filter_le ..) (by rw [List.length_map]; exact wm.tl)
  have hms : ∀ x, x ∈ mineP m s → x ∈ m.names := fun x hx => (List.mem_filter.mp hx).1
  have e1 : ("You hold " : Str).length = 9 := by decide +kernel
  have e2 : ("You wear " : Str).length = 9 := by decide +kernel
  have e3 : ("." : Str).length = 1 := by decide +kernel
  have e4 : ("and" : Str).length = 3 := by decide +kernel
  refine s_seq (s_asg (d := .lst ((mineP m s).map .str)) hd (EvD.up ((EvN.toD (en_lc Thing.d m.things (fun t ρ => ρ.set 6 (some t.d)) (fun t => decide (whF s t.name = .with_)) (fun t => .str t.name) (ev_op (ev_meth (fs := wfs m) (ev_var rfl) (w_no (by decide +kernel)) ea_nil ⟨m, wm, rfl, rfl⟩) ev_int (rd_ixT (d := .lst (m.things.map Thing.d)) rfl)) (Nat.lt_of_le_of_lt wm.tl (by decide)) (fun _ _ => tg_name)
    (fun t ht => et_test (ev_op (ev_meth (fs := sfs W m s) (ev_var rfl) (s_no (by decide +kernel)) (ea_cons (ev_op (x := t.d) (ev_var rfl) ev_int (rd_ixT (d := .str t.name) rfl)) ea_nil) ⟨m, s, t.name, wf, rfl, List.mem_map.mpr ⟨t, ht, rfl⟩, rfl⟩) ev_with (rd_eqW (wf.whok (wf.whF (List.mem_map.mpr ⟨t, ht, rfl⟩))) rfl))) (fun t ht _ => ev_op (x := t.d) (ev_var rfl) ev_int (rd_ixT (d := .str t.name) rfl)))).is ?_)) (by decide) (fun σ H1 a => ?_) a)
  · unfold mineP
    rw [List.filter_map, List.map_map]
    rfl
  have part : ∀ (c : Str → Bool), (∀ x, x ∈ ((mineP m s).filter c) → x ∈ m.names) ∧ ((mineP m s).filter c).length ≤ 12 := fun c => ⟨fun x hx => hms x (List.mem_filter.mp hx).1, Nat.le_trans (List.length_filter_le ..) hml⟩
  obtain ⟨s1, l1⟩ := part fun x => !wornF s x
  obtain ⟨s2, l2⟩ := part fun x => wornF s x
  have sh1 := short_a wm s1 (Nat.le_trans l1 (by decide))
  have sh2 := short_a wm s2 (Nat.le_trans l2 (by decide))
  have j1 := joinP_len (w := "and") sh1 (by omega)
  have j2 := joinP_len (w := "and") sh2 (by omega)
  have ok1 : ∀ x, x ∈ (((mineP m s).filter fun x => !wornF s x).map (aF m)) → PyData.strOk x = true := fun x hx => by
    obtain ⟨y, hy, e⟩ := List.mem_map.mp hx
    rw [← e]
    exact a_ok wm (s1 y hy)
  have ok2 : ∀ x, x ∈ (((mineP m s).filter fun x => wornF s x).map (aF m)) → PyData.strOk x = true := fun x hx => by
    obtain ⟨y, hy, e⟩ := List.mem_map.mp hx
    rw [← e]
    exact a_ok wm (s2 y hy)
  refine s_seq (s_asg (d := .lst ((((mineP m s).filter fun x => !wornF s x).map (aF m)).map .str)) hd (EvD.up ((EvN.toD (en_lc D.str (mineP m s) (fun x ρ => ρ.set 7 (some (.str x))) (fun x => !wornF s x) (fun x => .str (aF m x)) (ev_var rfl) (Nat.lt_of_le_of_lt hml (by decide)) (fun _ _ => tg_name) (fun x hx => et_not (et_B (ev_meth (fs := sfs W m s) (ev_var rfl) (s_no (by decide +kernel)) (ea_cons (ev_var rfl) ea_nil) ⟨m, s, x, wf, rfl, hms x hx, rfl⟩))) (fun x hx _ => ev_call (ea_cons (ev_var rfl) (ea_cons (ev_var rfl) ea_nil)) ⟨m, x, wm, rfl, hms x hx, rfl⟩))).is ?_)) (by decide) (fun σ H1 a => ?_) a)
  · rw [List.map_map]
    rfl
  refine s_seq (s_asg (d := .lst ((((mineP m s).filter fun x => wornF s x).map (aF m)).map .str)) hd (EvD.up ((EvN.toD (en_lc D.str (mineP m s) (fun x ρ => ρ.set 7 (some (.str x))) (fun x => wornF s x) (fun x => .str (aF m x)) (ev_var rfl) (Nat.lt_of_le_of_lt hml (by decide)) (fun _ _ => tg_name) (fun x hx => et_B (ev_meth (fs := sfs W m s) (ev_var rfl) (s_no (by decide +kernel)) (ea_cons (ev_var rfl) ea_nil) ⟨m, s, x, wf, rfl, hms x hx, rfl⟩)) (fun x hx _ => ev_call (ea_cons (ev_var rfl) (ea_cons (ev_var rfl) ea_nil)) ⟨m, x, wm, rfl, hms x hx, rfl⟩))).is ?_)) (by decide) (fun σ H1 a => ?_) a)
  · rw [List.map_map]
    rfl
  generalize hh : ((mineP m s).filter fun x => !wornF s x) = held at *
  generalize hw : ((mineP m s).filter fun x => wornF s x) = worn at *
  refine s_seq (s_new hd (en_lst ea_nil (Nat.zero_le _)) (Nat.le_of_ble_eq_true rfl) (fun σ H1 a => ?_) a)
  have nil_map : ∀ {l : List Str}, (l.map (aF m)).isEmpty = decide (l = []) := fun {l} => by cases l <;> rfl
  refine s_seq (s_ifJ (b := !decide (held = [])) (ρ' := [some (woD W m), some (stD S W m s), some (.lst ((mineP m s).map .str)), some (.lst ((held.map (aF m)).map .str)), some (.lst ((worn.map (aF m)).map .str)), none, none, none]) (wn' := some (5, .L ((if held = [] then [] else [("You hold " : Str) ++ joinP (held.map (aF m)) "and" ++ "."]).map .str))) hd
    ((et_test (ev_op (ev_var rfl) (EvN.toD (en_lst ea_nil (Nat.zero_le _))) (rd_neNil ok1))).is (by rw [nil_map])).up (fun hb kk σ H1 a => ?_) (fun hb kk σ H1 a => ?_) (fun σ H1 a => ?_) a)
  · have hne : ¬ held = [] := fun z => by rw [z] at hb; cases hb
    refine s_app hd (EvD.up (ev_op (ev_op ev_str (ev_call (ea_cons (ev_var rfl) ea_nil) ⟨held.map (aF m), sh1, rfl, rfl⟩) (rd_addS ?_)) ev_str (rd_addS ?_))) (by show 0 < 100000; decide) (fun σ H1 a => kk σ H1 ?_) a
    · omega
    · rw [len_app]
      omega
    · rw [if_neg hne]
      exact a
  · refine kk σ H1 ?_
    have hne : held = [] := by
      cases held with
      | nil => rfl
      | cons x r => cases hb
    rw [if_pos hne]
    exact a
  generalize hB : (if held = [] then [] else [("You hold " : Str) ++ joinP (held.map (aF m)) "and" ++ "."]) = B at a
  have hBl : B.length ≤ 1 := by rw [← hB]; split <;> simp
  refine s_seq (s_ifJ (b := !decide (worn = [])) (ρ' := [some (woD W m), some (stD S W m s), some (.lst ((mineP m s).map .str)), some (.lst ((held.map (aF m)).map .str)), some (.lst ((worn.map (aF m)).map .str)), none, none, none]) (wn' := some (5, .L ((B ++ if worn = [] then [] else [("You wear " : Str) ++ joinP (worn.map (aF m)) "and" ++ "."]).map .str))) hd
    ((et_test (ev_op (ev_var rfl) (EvN.toD (en_lst ea_nil (Nat.zero_le _))) (rd_neNil ok2))).is (by rw [nil_map])).up (fun hb kk σ H1 a => ?_) (fun hb kk σ H1 a => ?_) (fun σ H1 a => ?_) a)
  · have hne : ¬ worn = [] := fun z => by rw [z] at hb; cases hb
    refine s_app hd (EvD.up (ev_op (ev_op ev_str (ev_call (ea_cons (ev_var rfl) ea_nil) ⟨worn.map (aF m), sh2, rfl, rfl⟩) (rd_addS ?_)) ev_str (rd_addS ?_))) ?_ (fun σ H1 a => kk σ H1 ?_) a
    · omega
    · rw [len_app]
      omega
    · rw [List.length_map]
      omega
    · rw [if_neg hne, List.map_append]
      exact a
  · refine kk σ H1 ?_
    have hne : worn = [] := by
      cases worn with
      | nil => rfl
      | cons x r => cases hb
    rw [if_pos hne, List.append_nil]
    exact a
  have e : holdP m s = if (B ++ (if worn = [] then [] else [("You wear " : Str) ++ joinP (worn.map (aF m)) "and" ++ "."] : List Str)) = [] then (["You have nothing."] : List Str) else (B ++ (if worn = [] then [] else [("You wear " : Str) ++ joinP (worn.map (aF m)) "and" ++ "."] : List Str)) := by
    rw [← hB, ← hh, ← hw]
    rfl
  rw [e] at k
  generalize (B ++ (if worn = [] then [] else [("You wear " : Str) ++ joinP (worn.map (aF m)) "and" ++ "."] : List Str)) = C at a k
  refine s_retOr (es := (if C = [] then (["You have nothing."] : List Str) else C).map .str) hd (fun hC => ?_) (fun hC => ?_) k a
  · have h2 : C = [] := by simpa using hC
    rw [if_pos h2]
    exact en_lst (ea_cons ev_str ea_nil) (by show 1 ≤ 100000; decide)
  · have h2 : ¬ C = [] := fun z => hC (by rw [z]; rfl)
    rw [if_neg h2]
end Wt

namespace Wt
open PySem PySem.Spec PyProof.Rows L2
abbrev N_law_holders : List Str := ["_law_model_here", "_law_found", "_law_row"]
theorem sc_law_holders : FnScope N_law_holders ["_law_model_here"] (defScope s_law_holders) := ⟨rfl, rfl, rfl, by decide +kernel, rfl, by decide +kernel, by decide +kernel⟩
theorem d_law_holders {P : Program} {w : World} {K : PySem.W.Frag} {mg : Str → Option Value} {base : Heap} {S W : Addr} {f : Addr} {fd : FuncData} (F : FunW K "_law_holders" "_law_holders" s_law_holders f fd) (T : Txt K mg S W) : FnOk P w K mg base CX0 1 f fd ["_law_model_here"] (SpN F_lholders) := by
  refine F.ok sc_law_holders (SpN.len (by rintro ds d ⟨m, htl, rfl, rfl⟩; rfl)) (fun cdv A outer s0 H vs Q E hr h => ?_)
  have hu := hu_of hr
  obtain ⟨O, ds, d, hd, hm, ⟨m, htl, rfl, rfl⟩, k⟩ := h
  refine ⟨_, PSs.nox (pss_cons (ps_set (i := 1) sc_law_holders.nd rfl (Or.inl rfl) (pe_lst pa_nil))
    (pss_cons (ps_for PassesOwn.never rfl (kList (K := K) (pe_dget hu (pv 0) pe_str (fun _ _ => rfl))) (pg_name (i := 2) sc_law_holders.nd rfl (Or.inl rfl)) (pss_cons (ps_if (pt_cmpR (kIn (K := K)) pe_str (pe_ix (kIxT (K := K)) (pv 2) pe_int (fun _ _ => rfl)) (by rfl)) (pss_one (ps_expr (pe_bm PySem.F.plainAttrs_list PySem.F.slot_list_append PySem.F.type_list_append mt_append (pv 1) (pa_cons (pe_tup (pa_cons pe_str (pa_cons (pe_ix (kIxT (K := K)) (pv 2) pe_int (fun _ _ => rfl)) pa_nil))) pa_nil)))) pss_nil)
    (pss_one (ps_if (pt_cmpR (kIn (K := K)) pe_str (pe_ix (kIxT (K := K)) (pv 2) pe_int (fun _ _ => rfl)) (by rfl)) (pss_one (ps_expr (pe_bm PySem.F.plainAttrs_list PySem.F.slot_list_append PySem.F.type_list_append mt_append (pv 1) (pa_cons (pe_tup (pa_cons pe_str (pa_cons (pe_ix (kIxT (K := K)) (pv 2) pe_int (fun _ _ => rfl)) pa_nil))) pa_nil)))) pss_nil))))
    (pss_one (ps_ret (pv 1))))), ?_⟩
  have a : At O H [some m.d, none, none] none (L2.start N_law_holders vs) H := At.begin_ (N := N_law_holders) hm
  have hb : ∀ l : List Thing, (l.flatMap hT).length ≤ 2 * l.length := fun l => by
    induction l with
    | nil => simp
    | cons y r ih =>
      rw [List.flatMap_cons, List.length_append, List.length_cons]
      have : (hT y).length ≤ 2 := by unfold hT; rw [List.length_append]; split <;> split <;> simp
      omega
  refine s_seq (s_new hd (en_lst ea_nil (Nat.zero_le _)) (Nat.le_of_ble_eq_true rfl) (fun σ H1 a => ?_) a)
  refine s_seq (s_for Thing.d m.things hd (ev_things (ev_var rfl)).up (fun _ => [some m.d, none, none]) (fun i => some (1, .L (((m.things.take i).flatMap hT).map Wh.d))) (fun _ => True) (fun t ρ => ρ.set 2 (some t.d)) [2] (fun _ _ => tg_name) (fun n i z => by cases z; decide) rfl rfl trivial (fun Hb sb db i t hi _ σ H1 a => ?_) (fun _ σ H1 a => ?_) a)
  · have hl : ((m.things.take i).flatMap hT).length ≤ 24 := by
      have h1 := hb (m.things.take i)
      have h2 : (m.things.take i).length ≤ m.things.length := by rw [List.length_take]; exact Nat.min_le_right ..
      omega
    have e : (m.things.take (i + 1)).flatMap hT = (m.things.take i).flatMap hT ++ hT t := by
      rw [List.take_add_one, hi, List.flatMap_append]
      simp
    refine s_seq (s_ifJ (b := decide (("box" : Str) ∈ t.traits)) (ρ' := [some m.d, none, some t.d]) (wn' := some (1, .L (((m.things.take i).flatMap hT ++ (if ("box" : Str) ∈ t.traits then [Wh.in_ t.name] else [])).map Wh.d))) db (et_test (ev_op ev_str (ev_op (x := t.d) (ev_var rfl) ev_int (rd_ixT (d := .tup (t.traits.map .str)) rfl)) rd_inT)).up (fun hb kk σ H1 a => ?_) (fun hb kk σ H1 a => ?_) (fun σ H1 a => ?_) a)
    · refine s_app db (ev_inp (ev_op (x := t.d) (ev_var rfl) ev_int (rd_ixT (d := .str t.name) rfl))).up ?_ (fun σ H1 a => kk σ H1 ?_) a
      · rw [List.length_map]
        omega
      · rw [if_pos (of_decide_eq_true hb), List.map_append]
        exact a
    · refine kk σ H1 ?_
      rw [if_neg (of_decide_eq_false hb), List.append_nil]
      exact a
    refine s_if (b := decide (("stand" : Str) ∈ t.traits)) db (et_test (ev_op ev_str (ev_op (x := t.d) (ev_var rfl) ev_int (rd_ixT (d := .tup (t.traits.map .str)) rfl)) rd_inT)).up (fun hb σ H1 a => ?_) (fun hb σ H1 a => ⟨trivial, ?_⟩) a
    · refine s_app db (ev_onp (ev_op (x := t.d) (ev_var rfl) ev_int (rd_ixT (d := .str t.name) rfl))).up ?_ (fun σ H1 a => ⟨trivial, ?_⟩) a
      · have h2 : (if ("box" : Str) ∈ t.traits then [Wh.in_ t.name] else []).length ≤ 1 := by split <;> simp
        rw [List.length_map, List.length_append]
        omega
      · rw [e]
        unfold hT
        rw [if_pos (of_decide_eq_true hb), ← List.append_assoc, List.map_append]
        exact a.weak (.keep (.keep (.drop .nil)))
    · rw [e]
      unfold hT
      rw [if_neg (of_decide_eq_false hb), List.append_nil]
      exact a.weak (.keep (.keep (.drop .nil)))
  · rw [List.take_of_length_le (Nat.le_refl _)] at a
    exact s_retO k a
abbrev N_law_free : List Str := ["_law_model_here", "_law_place", "_law_taken", "_law_way", "_law_one"]
theorem sc_law_free : FnScope N_law_free ["_law_model_here", "_law_place"] (defScope s_law_free) := ⟨rfl, rfl, rfl, by decide +kernel, rfl, by decide +kernel, by decide +kernel⟩
theorem d_law_free {P : Program} {w : World} {K : PySem.W.Frag} {mg : Str → Option Value} {base : Heap} {S W : Addr} {f : Addr} {fd : FuncData} (F : FunW K "_law_free" "_law_free" s_law_free f fd) (T : Txt K mg S W) : FnOk P w K mg base CX0 1 f fd ["_law_model_here", "_law_place"] (SpN F_free) := by
  refine F.ok sc_law_free (SpN.len (by rintro ds d ⟨m, p, hyl, rfl, rfl⟩; rfl)) (fun cdv A outer s0 H vs Q E hr h => ?_)
  have hu := hu_of hr
  obtain ⟨O, ds, d, hd, hm, ⟨m, p, hyl, rfl, rfl⟩, k⟩ := h
  refine ⟨_, PSs.nox (pss_cons (ps_set (i := 2) sc_law_free.nd rfl (Or.inr rfl) (pe_lc (own := [("_law_way", 3)]) (g := (gName 3)) rfl sc_law_free.nd (kList (K := K) (pe_dget hu (pv 0) pe_str (fun _ _ => rfl))) (blkOk_by (own := [("_law_way", 3)]) (N := N_law_free) (sc := defScope s_law_free) (by decide +kernel)) (fun _ _ _ _ _ => (pg_name (i := 3) sc_law_free.nd rfl (Or.inl rfl))) (fun _ _ _ _ _ => (pts_one (pt_cmpR op_eq (pe_ix (kIxT (K := K)) (pv 3) pe_int (fun _ _ => rfl)) (pv 1) (by rfl)))) (fun _ _ _ _ _ => (pe_ix (kIxT (K := K)) (pv 3) pe_int (fun _ _ => rfl)))))
    (pss_one (ps_ret (pe_lc (own := [("_law_one", 4)]) (g := (gName 4)) rfl sc_law_free.nd (kList (K := K) (pe_lst (pa_cons pe_str (pa_cons pe_str (pa_cons pe_str (pa_cons pe_str (pa_cons pe_str (pa_cons pe_str pa_nil)))))))) (blkOk_by (own := [("_law_one", 4)]) (N := N_law_free) (sc := defScope s_law_free) (by decide +kernel)) (fun _ _ _ _ _ => (pg_name (i := 4) sc_law_free.nd rfl (Or.inl rfl))) (fun _ _ _ _ _ => (pts_one (pt_cmpR (kNotIn (K := K)) (pv 4) (pv 2) (by rfl)))) (fun _ _ _ _ _ => (pv 4)))))), ?_⟩
  have a : At O H [some m.d, some (.str p), none, none, none] none (L2.start N_law_free vs) H := At.begin_ (N := N_law_free) hm
  refine s_seq (s_asg (d := .lst (((m.ways.filter fun y : Way => decide (y.src = p)).map Way.dir).map .str)) hd (EvD.up ((EvN.toD (en_lc Way.d m.ways (fun y ρ => ρ.set 3 (some y.d)) (fun y => decide (y.src = p)) (fun y => .str y.dir) (ev_ways (ev_var rfl)) (Nat.lt_of_le_of_lt hyl (by decide)) (fun _ _ => tg_name) (fun y _ => et_test (ev_op (ev_op (x := y.d) (ev_var rfl) ev_int (rd_ixT (d := .str y.src) rfl)) (ev_var rfl) rd_eqS)) (fun y _ _ => (ev_op (x := y.d) (ev_var rfl) ev_int (rd_ixT (d := .str y.dir) rfl))))).is ?_)) (by decide) (fun σ H1 a => ?_) a)
  · rw [List.map_map]
    rfl
  refine s_retN hd (en_lc D.str dirs (fun x ρ => ρ.set 4 (some (.str x))) (fun x => !decide (x ∈ (m.ways.filter fun y : Way => decide (y.src = p)).map Way.dir)) D.str (EvN.toD (en_lst (ea_cons ev_str (ea_cons ev_str (ea_cons ev_str (ea_cons ev_str (ea_cons ev_str (ea_cons ev_str ea_nil)))))) (by show 6 ≤ 100000; decide))) (by show 6 < 100000; decide) (fun _ _ => tg_name) (fun x _ => et_test (ev_op (ev_var rfl) (ev_var rfl) rd_notInL)) (fun x _ _ => ev_var rfl)) k a
abbrev N_law_holds : List Str := ["_law_own_here", "_law_holder", "_law_thing", "_law_turn", "_law_where"]
theorem sc_law_holds : FnScope N_law_holds ["_law_own_here", "_law_holder", "_law_thing"] (defScope s_law_holds) := ⟨rfl, rfl, rfl, by decide +kernel, rfl, by decide +kernel, by decide +kernel⟩
theorem d_law_holds {P : Program} {w : World} {K : PySem.W.Frag} {mg : Str → Option Value} {base : Heap} {S W : Addr} {f : Addr} {fd : FuncData} (F : FunW K "_law_holds" "_law_holds" s_law_holds f fd) (T : Txt K mg S W) : FnOk P w K mg base CX0 1 f fd ["_law_own_here", "_law_holder", "_law_thing"] (SpD F_lholds) := by
  refine F.ok sc_law_holds (SpD.len (by rintro ds d ⟨s, h, x, w, c, r, hw, hc, hl, rfl, rfl⟩; rfl)) (fun cdv A outer s0 H vs Q E hr h => ?_)
  have hu := hu_of hr
  obtain ⟨O, ds, d, hd, hm, ⟨s, h, x, w, c, r, hw, hc, hl, rfl, rfl⟩, k⟩ := h
  refine ⟨_, PSs.nox (pss_cons (ps_for PassesOwn.never rfl (pi_range1 (by rfl) T.range (pa_cons pe_int pa_nil)) (pg_name (i := 3) sc_law_holds.nd rfl (Or.inl rfl)) (pss_cons (ps_if (pt_cmpR op_eq (pv 2) (pv 1) (by rfl)) (pss_one (ps_ret pe_bl)) pss_nil)
    (pss_cons (ps_set (i := 4) sc_law_holds.nd rfl (Or.inl rfl) (pe_dget hu (pe_dget hu (pv 0) pe_str (fun _ _ => rfl)) (pv 2) (fun _ _ => rfl)))
    (pss_cons (ps_if (pt_cmpR (kNotIn (K := K)) (pe_ix (kIxT (K := K)) (pv 4) pe_int (fun _ _ => rfl)) (pe_tup (pa_cons pe_str (pa_cons pe_str pa_nil))) (by rfl)) (pss_one (ps_ret pe_bl)) pss_nil)
    (pss_one (ps_set (i := 2) sc_law_holds.nd rfl (Or.inl rfl) (pe_ix (kIxT (K := K)) (pv 4) pe_int (fun _ _ => rfl))))))))
    (pss_one (ps_ret pe_bl))), ?_⟩
  have a : At O H [some s.d, some (.str h), some (.str x), none, none] none (L2.start N_law_holds vs) H := At.begin_ (N := N_law_holds) hm
  have key : ∀ i, i ≤ c.length → ∃ y, (x :: c.map (·.2))[i]? = some y ∧ look s.whs y = some (wAt c r i) := by
    intro i hi
    cases i with
    | zero => exact ⟨x, rfl, by rw [hw, wAt_0 hc]⟩
    | succ i =>
      have hp := List.getElem?_eq_getElem (show i < c.length by omega)
      exact ⟨(c[i]).2, by rw [List.getElem?_cons_succ, List.getElem?_map, hp]; rfl, hc.next hp⟩
  refine s_seq (s_forR (n := 14) hd (ea_cons ev_int ea_nil) (by decide) (fun i => [some s.d, some (.str h), some (.str (((x :: c.map (·.2))[i]?).getD x)), none, none]) (fun _ => none) (fun i => i ≤ c.length ∧ h ∉ (x :: c.map (·.2)).take i) rfl rfl ⟨Nat.zero_le _, by simp⟩ (fun n z => nomatch z) (fun i hi hP σ H1 a => ?_) (fun hP σ H1 a => ?_) a)
  · obtain ⟨h1, h2⟩ := hP
    obtain ⟨y, hy, hyw⟩ := key i h1
    rw [hy] at a
    refine (q_when (b := decide (y = h)) hd (et_test (ev_op (ev_var rfl) (ev_var rfl) rd_eqS)).up (fun hb σ H1 a => ?_) (fun hb σ H1 a => ?_) a)
    · have e : decide (h ∈ x :: c.map (·.2)) = true := decide_eq_true (by rw [← of_decide_eq_true hb]; exact List.mem_of_getElem? hy)
      rw [e] at k
      exact s_ret hd ev_bl.up k a
    have hne := of_decide_eq_false hb
    refine s_seq (s_asg hd (ev_dget (ev_where (ev_var rfl)) (ev_var rfl) (val_wh hyw)).up (by decide) (fun σ H1 a => ?_) a)
    refine (q_when (b := !isHeld (wAt c r i)) hd (et_notheld (ev_var rfl)).up (fun hb σ H1 a => ?_) (fun hb σ H1 a => ?_) a)
    · have ei : i = c.length := by
        rcases Nat.lt_or_ge i c.length with z | z
        · rw [wAt_i (List.getElem?_eq_getElem z), isHeld_link] at hb
          cases hb
        · omega
      have e : decide (h ∈ x :: c.map (·.2)) = false := decide_eq_false fun z => by
        have e3 : (x :: c.map (·.2)).take i ++ [y] = x :: c.map (·.2) := by
          have e4 : (x :: c.map (·.2)).take (i + 1) = x :: c.map (·.2) := List.take_of_length_le (by simp [ei])
          rw [List.take_add_one, hy] at e4
          exact e4
        rw [← e3] at z
        rcases List.mem_append.mp z with z | z
        · exact h2 z
        · exact hne (List.mem_singleton.mp z).symm
      rw [e] at k
      exact s_ret hd ev_bl.up k a
    · have ei : i < c.length := by
        rcases Nat.lt_or_ge i c.length with z | z
        · exact z
        · have : i = c.length := by omega
          subst this
          rw [wAt_n, hc.root] at hb
          cases hb
      have hp := List.getElem?_eq_getElem ei
      rw [wAt_i hp] at a
      refine s_asg hd (ev_arg (p := c[i]) (ev_var rfl)).up (by decide) (fun σ H1 a => ⟨⟨by omega, ?_⟩, ?_⟩) a
      · rw [List.take_add_one, hy]
        intro z
        rcases List.mem_append.mp z with z | z
        · exact h2 z
        · simp at z
          exact hne z.symm
      · have e : (x :: c.map (·.2))[i + 1]? = some (c[i]).2 := by rw [List.getElem?_cons_succ, List.getElem?_map, hp]; rfl
        rw [e]
        exact a.weak (.keep (.keep (.keep (.drop (.drop .nil)))))
  · exact absurd hP.1 (by omega)
abbrev N_law_doors : List Str := ["_law_model_here", "_law_place", "_law_names", "_law_way", "_law_row"]
theorem sc_law_doors : FnScope N_law_doors ["_law_model_here", "_law_place"] (defScope s_law_doors) := ⟨rfl, rfl, rfl, by decide +kernel, rfl, by decide +kernel, by decide +kernel⟩
theorem d_law_doors {P : Program} {w : World} {K : PySem.W.Frag} {mg : Str → Option Value} {base : Heap} {S W : Addr} {f : Addr} {fd : FuncData} (F : FunW K "_law_doors" "_law_doors" s_law_doors f fd) (T : Txt K mg S W) : FnOk P w K mg base CX0 1 f fd ["_law_model_here", "_law_place"] (SpN F_ldoors) := by
  refine F.ok sc_law_doors (SpN.len (by rintro ds d ⟨m, p, wm, rfl, rfl⟩; rfl)) (fun cdv A outer s0 H vs Q E hr h => ?_)
  have hu := hu_of hr
  obtain ⟨O, ds, d, hd, hm, ⟨m, p, wm, rfl, rfl⟩, k⟩ := h
  refine ⟨_, PSs.nox (pss_cons (ps_set (i := 2) sc_law_doors.nd rfl (Or.inr rfl) (pe_lc (own := [("_law_way", 3)]) (g := (gName 3)) rfl sc_law_doors.nd (kList (K := K) (pe_dget hu (pv 0) pe_str (fun _ _ => rfl))) (blkOk_by (own := [("_law_way", 3)]) (N := N_law_doors) (sc := defScope s_law_doors) (by decide +kernel)) (fun _ _ _ _ _ => (pg_name (i := 3) sc_law_doors.nd rfl (Or.inl rfl))) (fun _ _ _ _ _ => (pts_one (pt_cmpR (kIn (K := K)) (pv 1) (pe_tup (pa_cons (pe_ix (kIxT (K := K)) (pv 3) pe_int (fun _ _ => rfl)) (pa_cons (pe_ix (kIxT (K := K)) (pv 3) pe_int (fun _ _ => rfl)) pa_nil))) (by rfl)))) (fun _ _ _ _ _ => (pe_ix (kIxT (K := K)) (pv 3) pe_int (fun _ _ => rfl)))))
    (pss_one (ps_ret (pe_lc (own := [("_law_row", 4)]) (g := (gName 4)) rfl sc_law_doors.nd (kList (K := K) (pe_dget hu (pv 0) pe_str (fun _ _ => rfl))) (blkOk_by (own := [("_law_row", 4)]) (N := N_law_doors) (sc := defScope s_law_doors) (by decide +kernel)) (fun _ _ _ _ _ => (pg_name (i := 4) sc_law_doors.nd rfl (Or.inl rfl))) (fun _ _ _ _ _ => (pts_one (pt_cmpR (kIn (K := K)) (pe_ix (kIxT (K := K)) (pv 4) pe_int (fun _ _ => rfl)) (pv 2) (by rfl)))) (fun _ _ _ _ _ => (pe_ix (kIxT (K := K)) (pv 4) pe_int (fun _ _ => rfl))))))), ?_⟩
  have a : At O H [some m.d, some (.str p), none, none, none] none (L2.start N_law_doors vs) H := At.begin_ (N := N_law_doors) hm
  refine s_seq (s_asg (d := .lst (((m.ways.filter fun y => decide (p ∈ [y.src, y.dst])).map (·.door)).map .str)) hd (EvD.up ((EvN.toD (en_lc Way.d m.ways (fun y ρ => ρ.set 3 (some y.d)) (fun y => decide (p ∈ [y.src, y.dst])) (fun y => .str y.door) (ev_ways (ev_var rfl)) (Nat.lt_of_le_of_lt wm.yl (by decide)) (fun _ _ => tg_name) (fun y _ => et_test (ev_op (ev_var rfl) (ev_pair (ev_op (x := y.d) (ev_var rfl) ev_int (rd_ixT (d := .str y.src) rfl)) (ev_op (x := y.d) (ev_var rfl) ev_int (rd_ixT (d := .str y.dst) rfl))) (rd_inT (ss := [y.src, y.dst])))) (fun y _ _ => (ev_op (x := y.d) (ev_var rfl) ev_int (rd_ixT (d := .str y.door) rfl))))).is ?_)) (by decide) (fun σ H1 a => ?_) a)
  · rw [List.map_map]
    rfl
  rw [← doors_comp] at k
  exact s_retN hd (en_lc Thing.d m.things (fun t ρ => ρ.set 4 (some t.d)) (fun t => decide (t.name ∈ (m.ways.filter fun y => decide (p ∈ [y.src, y.dst])).map (·.door))) (fun t => .str t.name) (ev_things (ev_var rfl)) (Nat.lt_of_le_of_lt wm.tl (by decide)) (fun _ _ => tg_name) (fun t _ => et_test (ev_op (ev_op (x := t.d) (ev_var rfl) ev_int (rd_ixT (d := .str t.name) rfl)) (ev_var rfl) rd_inL)) (fun t _ _ => (ev_op (x := t.d) (ev_var rfl) ev_int (rd_ixT (d := .str t.name) rfl)))) k a
abbrev N_law_words : List Str := ["_law_model_here", "_law_thing", "_law_row", "_law_one"]
theorem sc_law_words : FnScope N_law_words ["_law_model_here", "_law_thing"] (defScope s_law_words) := ⟨rfl, rfl, rfl, by decide +kernel, rfl, by decide +kernel, by decide +kernel⟩
theorem d_law_words {P : Program} {w : World} {K : PySem.W.Frag} {mg : Str → Option Value} {base : Heap} {S W : Addr} {f : Addr} {fd : FuncData} (F : FunW K "_law_words" "_law_words" s_law_words f fd) (T : Txt K mg S W) : FnOk P w K mg base CX0 1 f fd ["_law_model_here", "_law_thing"] (SpD F_lwords) := by
  refine F.ok sc_law_words (SpD.len (by rintro ds d ⟨m, x, wm, hx, rfl, rfl⟩; rfl)) (fun cdv A outer s0 H vs Q E hr h => ?_)
  have hu := hu_of hr
  obtain ⟨O, ds, d, hd, hm, ⟨m, x, wm, hx, rfl, rfl⟩, k⟩ := h
  refine ⟨_, PSs.nox (pss_cons (ps_set (i := 2) sc_law_words.nd rfl (Or.inl rfl) (pe_ix (kIxL (K := K)) (pe_lc (own := [("_law_one", 3)]) (g := (gName 3)) rfl sc_law_words.nd (kList (K := K) (pe_dget hu (pv 0) pe_str (fun _ _ => rfl))) (blkOk_by (own := [("_law_one", 3)]) (N := N_law_words) (sc := defScope s_law_words) (by decide +kernel)) (fun _ _ _ _ _ => (pg_name (i := 3) sc_law_words.nd rfl (Or.inl rfl))) (fun _ _ _ _ _ => (pts_one (pt_cmpR op_eq (pe_ix (kIxT (K := K)) (pv 3) pe_int (fun _ _ => rfl)) (pv 1) (by rfl)))) (fun _ _ _ _ _ => (pv 3))) pe_int (fun _ _ => rfl)))
    (pss_one (ps_ret (kJoin (K := K) pe_str (pe_op op_cat (pe_callTy (kListOf (K := K)) (by rfl) T.list (by decide +kernel) (pa_cons (pe_ix (kIxT (K := K)) (pv 2) pe_int (fun _ _ => rfl)) pa_nil)) (pe_lst (pa_cons (pe_ix (kIxT (K := K)) (pv 2) pe_int (fun _ _ => rfl)) pa_nil))))))), ?_⟩
  have a : At O H [some m.d, some (.str x), none, none] none (L2.start N_law_words vs) H := At.begin_ (N := N_law_words) hm
  obtain ⟨t, ht⟩ := thg_some hx
  have tok := wm.tok t (thg_mem ht)
  rw [words_t ht] at k
  refine s_seq (s_asg hd (ev_op (EvN.toD (en_lc Thing.d m.things (fun t ρ => ρ.set 3 (some t.d)) (fun t => decide (t.name = x)) Thing.d (ev_things (ev_var rfl)) (Nat.lt_of_le_of_lt wm.tl (by decide)) (fun _ _ => tg_name)
    (fun t _ => et_test (ev_op (ev_op (x := t.d) (ev_var rfl) ev_int (rd_ixT (d := .str t.name) rfl)) (ev_var rfl) rd_eqS)) (fun t _ _ => ev_var rfl))) ev_int (rd_ixL (d := t.d) ?_)).up (by decide) (fun σ H1 a => ?_) a)
  · have e : ((m.things.filter fun t => decide (t.name = x)).map Thing.d)[0]? = some t.d := by
      rw [List.getElem?_map, ← List.head?_eq_getElem?, List.head?_filter]
      unfold thg at ht
      rw [ht]
      rfl
    exact atI_nat (j := 0) e
  · refine s_ret hd (ev_join (ss := t.adjs ++ [t.noun]) ev_str ((EvN.toD (en_op (EvN.toD (en_cb (ea_cons (ev_op (x := t.d) (ev_var rfl) ev_int (rd_ixT (d := .tup (t.adjs.map .str)) rfl)) ea_nil) cn_listT)) (EvN.toD (en_lst (ea_cons (ev_op (x := t.d) (ev_var rfl) ev_int (rd_ixT (d := .str t.noun) rfl)) ea_nil) (by show 1 ≤ 100000; decide))) (rn_cat ?_))).is ?_) ?_).up k a
    · rw [List.length_map]
      have := tok.few
      show _ + 1 ≤ _
      omega
    · rw [List.map_append]
      rfl
    · have h := sum_le 8 (t.adjs ++ [t.noun]) (fun z hz => by
        rcases List.mem_append.mp hz with hz | hz
        · exact (tok.adjs z hz).2.1
        · rw [List.mem_singleton.mp hz]
          exact tok.noun.2.1)
      have e : (" " : Str).length = 1 := by decide +kernel
      have hf := tok.few
      rw [e]
      rw [List.length_append] at h ⊢
      simp only [List.length_cons, List.length_nil] at h ⊢
      omega
abbrev N_law_a : List Str := ["_law_model_here", "_law_thing", "_law_words_here"]
theorem sc_law_a : FnScope N_law_a ["_law_model_here", "_law_thing"] (defScope s_law_a) := ⟨rfl, rfl, rfl, by decide +kernel, rfl, by decide +kernel, by decide +kernel⟩
theorem d_law_a {P : Program} {w : World} {K : PySem.W.Frag} {mg : Str → Option Value} {base : Heap} {S W : Addr} {f : Addr} {fd : FuncData} (F : FunW K "_law_a" "_law_a" s_law_a f fd) (T : Txt K mg S W)
    (c1 : CalF P w K mg base "_law_words" 1 ["_law_model_here", "_law_thing"] (SpD F_lwords)) : FnOk P w K mg base CX0 2 f fd ["_law_model_here", "_law_thing"] (SpD F_la) := by
  obtain ⟨_, _, G1, M1, K1, B1⟩ := c1.ex
  refine F.ok sc_law_a (SpD.len (by rintro ds d ⟨m, x, wm, hx, rfl, rfl⟩; rfl)) (fun cdv A outer s0 H vs Q E hr h => ?_)
  have hu := hu_of hr
  obtain ⟨O, ds, d, hd, hm, ⟨m, x, wm, hx, rfl, rfl⟩, k⟩ := h
  refine ⟨_, PSs.nox (pss_cons (ps_set (i := 2) sc_law_a.nd rfl (Or.inl rfl) (pe_call G1 (hr.mono (by decide)) rfl M1 K1 B1 .nil pass0 (pa_cons (pv 0) (pa_cons (pv 1) pa_nil))))
    (pss_one (ps_ret (pe_op op_add_str (pe_ix (kIxL (K := K)) (pe_lst (pa_cons pe_str (pa_cons pe_str pa_nil))) (pe_callTy call_int1 (by rfl) T.int (by decide +kernel) (pa_cons (pe_cmpR op_inS (pe_ix ix_str (pv 2) pe_int (fun _ _ => rfl)) pe_str (by rfl)) pa_nil)) (fun _ _ => rfl)) (pv 2))))), ?_⟩
  have a : At O H [some m.d, some (.str x), none] none (L2.start N_law_a vs) H := At.begin_ (N := N_law_a) hm
  have hl := words_len wm hx
  have e1 : ("an " : Str).length = 3 := by decide +kernel
  have e2 : ("a " : Str).length = 2 := by decide +kernel
  have hc : ∃ c, (wordsF m x).cps.toList[0]? = some c := by
    have h : 0 < (wordsF m x).cps.toList.length := by
      have h1 : 1 ≤ (wordsF m x).cps.size := hl.1
      rw [Array.length_toList]
      exact h1
    exact ⟨_, List.getElem?_eq_getElem h⟩
  obtain ⟨c, hc⟩ := hc
  have hv : vowel (wordsF m x) = decide (c ∈ ("aeiou" : Str).cps.toList) := by unfold vowel; rw [hc]
  refine s_seq (s_asg hd (ev_call (ea_cons (ev_var rfl) (ea_cons (ev_var rfl) ea_nil)) ⟨m, x, wm, hx, rfl, rfl⟩).up (by decide) (fun σ H1 a => ?_) a)
  refine s_ret hd (ev_op (ev_op (EvN.toD (en_lst (ea_cons ev_str (ea_cons ev_str ea_nil)) (by show 2 ≤ 100000; decide))) (ev_cb (ea_cons ((ev_op (ev_op (ev_var rfl) ev_int (rd_ixS (Nat.le_trans hl.2 (by decide)) (atI_nat (j := 0) hc))) ev_str rd_inS).is (congrArg D.bl hv.symm)) ea_nil) cd_intB) (rd_ixL (d := .str (if vowel (wordsF m x) then ("an " : Str) else "a ")) ?_)) (ev_var rfl) (rd_addS ?_)).up k a
  · cases vowel (wordsF m x)
    · exact atI_nat (j := 0) rfl
    · exact atI_nat (j := 1) rfl
  · have := hl.2
    split <;> omega
abbrev N_law_joined : List Str := ["_law_texts", "_law_word_here", "_law_found", "_law_k", "_law_text"]
theorem sc_law_joined : FnScope N_law_joined ["_law_texts", "_law_word_here"] (defScope s_law_joined) := ⟨rfl, rfl, rfl, by decide +kernel, rfl, by decide +kernel, by decide +kernel⟩
theorem d_law_joined {P : Program} {w : World} {K : PySem.W.Frag} {mg : Str → Option Value} {base : Heap} {S W : Addr} {f : Addr} {fd : FuncData} (F : FunW K "_law_joined" "_law_joined" s_law_joined f fd) (T : Txt K mg S W) : FnOk P w K mg base CX0 1 f fd ["_law_texts", "_law_word_here"] (SpD F_ljoin) := by
  refine F.ok sc_law_joined (SpD.len (by rintro ds d ⟨xs, w, hs, hw, rfl, rfl⟩; rfl)) (fun cdv A outer s0 H vs Q E hr h => ?_)
  have hu := hu_of hr
  obtain ⟨O, ds, d, hd, hm, ⟨xs, w, hs, hw, rfl, rfl⟩, k⟩ := h
  refine ⟨_, PSs.nox (pss_cons (ps_set (i := 2) sc_law_joined.nd rfl (Or.inl rfl) pe_str)
    (pss_cons (ps_for PassesOwn.never rfl (kEnum (K := K) (by rfl) T.enumerate (pa_cons (pv 0) pa_nil)) (kTupG (K := K) (by rfl) (pgs_cons (pg_name (i := 3) sc_law_joined.nd rfl (Or.inl rfl)) (pgs_cons (pg_name (i := 4) sc_law_joined.nd rfl (Or.inl rfl)) pgs_nil))) (pss_cons (ps_if (pt_cmpR op_gt (pv 3) pe_int (by rfl)) (pss_one (ps_set (i := 2) sc_law_joined.nd rfl (Or.inl rfl) (pe_op op_add_str (pv 2) (pe_ix (kIxL (K := K)) (pe_lst (pa_cons pe_str (pa_cons (pe_op op_add_str (pe_op op_add_str pe_str (pv 1)) pe_str) pa_nil))) (pe_callTy call_int1 (by rfl) T.int (by decide +kernel) (pa_cons (pe_cmpR op_eq (pv 3) (pe_op op_sub (pe_callB (kLen (K := K)) (by rfl) T.len (by decide +kernel) (pa_cons (pv 0) pa_nil)) pe_int) (by rfl)) pa_nil)) (fun _ _ => rfl))))) pss_nil)
    (pss_one (ps_set (i := 2) sc_law_joined.nd rfl (Or.inl rfl) (pe_op op_add_str (pv 2) (pv 4))))))
    (pss_one (ps_ret (pv 2))))), ?_⟩
  have a : At O H [some (.lst (xs.map .str)), some (.str w), none, none, none] none (L2.start N_law_joined vs) H := At.begin_ (N := N_law_joined) hm
  have e0 : Str.empty.length = 0 := rfl
  have e1 : (", " : Str).length = 2 := by decide +kernel
  have e2 : (" " : Str).length = 1 := by decide +kernel
  have hl := hs.1
  have hlen : ∀ i, i ≤ xs.length → (joinS xs w i).length ≤ i * 1200 := fun i => by
    induction i with
    | zero => intro _; exact Nat.le_refl _
    | succ i ih =>
      intro hi
      have ih := ih (by omega)
      have hx : (xs[i]?.getD Str.empty).length ≤ 1000 := by
        rw [List.getElem?_eq_getElem (show i < xs.length by omega)]
        exact hs.2 _ (List.getElem_mem _)
      unfold joinS
      rw [len_app]
      split
      · omega
      · rw [len_app]
        split
        · rw [len_app, len_app]
          omega
        · omega
  rw [← joinS_P] at k
  refine s_seq (s_asg hd ev_str.up (by decide) (fun σ H1 a => ?_) a)
  refine s_seq (s_forE D.str xs hd (ea_cons (ev_var rfl) ea_nil) (fun i => [some (.lst (xs.map .str)), some (.str w), some (.str (joinS xs w i)), none, none]) (fun _ => none) (fun _ => True) (fun n z => nomatch z) (fun n z => nomatch z) rfl rfl trivial (fun Hb sb db i x hi _ σ H1 a => ?_) (fun _ σ H1 a => ?_) a)
  · have hil : i < xs.length := (List.getElem?_eq_some_iff.mp hi).1
    have h1 := hlen i (by omega)
    have hx := hs.2 x (List.mem_of_getElem? hi)
    have e : joinS xs w (i + 1) = (if i = 0 then joinS xs w i else joinS xs w i ++ (if i = xs.length - 1 then " " ++ w ++ " " else ", ")) ++ x := by
      conv => lhs; unfold joinS
      rw [hi]
      rfl
    have hm : (if i = 0 then joinS xs w i else joinS xs w i ++ (if i = xs.length - 1 then " " ++ w ++ " " else ", ")).length ≤ 100000 := by
      split
      · omega
      · rw [len_app]
        split
        · rw [len_app, len_app]
          omega
        · omega
    refine s_seq (s_ifJ (b := decide ((i : Int) > 0)) (ρ' := [some (.lst (xs.map .str)), some (.str w), some (.str (if i = 0 then joinS xs w i else joinS xs w i ++ (if i = xs.length - 1 then " " ++ w ++ " " else ", "))), some (.int (i : Int)), some (.str x)]) (wn' := none) db (et_test (ev_op (ev_var rfl) ev_int rd_ib)).up (fun hb kk σ H1 a => ?_) (fun hb kk σ H1 a => ?_) (fun σ H1 a => ?_) a)
    · have hp : ¬ i = 0 := by have := of_decide_eq_true hb; omega
      refine s_asg db (ev_op (ev_var rfl) (ev_op (EvN.toD (en_lst (ea_cons ev_str (ea_cons (ev_op (ev_op ev_str (ev_var rfl) (rd_addS ?_)) ev_str (rd_addS ?_)) ea_nil)) (by show 2 ≤ 100000; decide))) (ev_cb (ea_cons (ev_op (ev_var rfl) (ev_op (ev_cb (ea_cons (ev_var rfl) ea_nil) cd_lenL) ev_int rd_ii) rd_eqI) ea_nil) cd_intB) (rd_ixL (d := .str (if i = xs.length - 1 then " " ++ w ++ " " else ", ")) ?_)) (rd_addS ?_)).up (by decide) (fun σ H1 a => kk σ H1 ?_) a
      · omega
      · rw [len_app]
        omega
      · rw [List.length_map]
        by_cases q : i = xs.length - 1
        · rw [if_pos q, decide_eq_true (by omega)]
          exact atI_nat (j := 1) rfl
        · rw [if_neg q, decide_eq_false (by omega)]
          exact atI_nat (j := 0) rfl
      · rw [if_neg hp, len_app] at hm
        exact Nat.le_trans hm (by decide)
      · rw [if_neg hp]
        exact a
    · have hp : i = 0 := by have := of_decide_eq_false hb; omega
      refine kk σ H1 ?_
      rw [if_pos hp]
      exact a
    · refine s_asg db (ev_op (ev_var rfl) (ev_var rfl) (rd_addS ?_)).up (by decide) (fun σ H1 a => ⟨trivial, ?_⟩) a
      · omega
      · rw [e]
        exact a.weak (.keep (.keep (.keep (.drop (.drop .nil)))))
  · exact s_ret hd (ev_var rfl).up k a
end Wt

namespace Wt
open PySem PySem.Spec PyProof.Rows L2
abbrev N_law_marked : List Str := ["_law_model_here", "_law_own_here", "_law_clear", "_law_found", "_law_turn", "_law_row", "_law_where", "_law_shut", "_law_root", "_law_hidden", "_law_kept"]
theorem sc_law_marked : FnScope N_law_marked ["_law_model_here", "_law_own_here"] (defScope s_law_marked) := ⟨rfl, rfl, rfl, by decide +kernel, rfl, by decide +kernel, by decide +kernel⟩
theorem d_law_marked {P : Program} {w : World} {K : PySem.W.Frag} {mg : Str → Option Value} {base : Heap} {S W : Addr} {f : Addr} {fd : FuncData} (F : FunW K "_law_marked" "_law_marked" s_law_marked f fd) (T : Txt K mg S W) : FnOk P w K mg base CX0 1 f fd ["_law_model_here", "_law_own_here"] (SpM F_marked) := by
  refine F.ok sc_law_marked (SpM.len (by rintro ds d ⟨m, s, wf, rfl, rfl⟩; rfl)) (fun cdv A outer s0 H vs Q E hr h => ?_)
  have hu := hu_of hr
  obtain ⟨O, ds, d, hd, hm, ⟨m, s, wf, rfl, rfl⟩, k⟩ := h
  refine ⟨_, PSs.nox (pss_cons (ps_setLc (i := 2) (own := [("_law_row", 5)]) (g := (gName 5)) rfl sc_law_marked.nd rfl rfl (sw_true rfl rfl rfl (by decide +kernel)) (kList (K := K) (pe_dget hu (pv 0) pe_str (fun _ _ => rfl))) (blkOk_by (own := [("_law_row", 5)]) (N := N_law_marked) (sc := defScope s_law_marked) (by decide +kernel)) (fun _ _ _ _ _ => (pg_name (i := 5) sc_law_marked.nd rfl (Or.inl rfl))) (fun _ _ _ _ _ => (pts_one (pt_cmpR (kIn (K := K)) pe_str (pe_ix (kIxT (K := K)) (pv 5) pe_int (fun _ _ => rfl)) (by rfl)))) (fun _ _ _ _ _ => (pe_ix (kIxT (K := K)) (pv 5) pe_int (fun _ _ => rfl))))
    (pss_cons (ps_set (i := 3) sc_law_marked.nd rfl (Or.inl rfl) pe_dnewK)
    (pss_cons (ps_for PassesOwn.never rfl (pi_range1 (by rfl) T.range (pa_cons pe_int pa_nil)) (pg_name (i := 4) sc_law_marked.nd rfl (Or.inl rfl)) (pss_one (ps_for PassesOwn.never rfl (kList (K := K) (pe_dget hu (pv 0) pe_str (fun _ _ => rfl))) (pg_name (i := 5) sc_law_marked.nd rfl (Or.inl rfl)) (pss_cons (ps_set (i := 6) sc_law_marked.nd rfl (Or.inl rfl) (pe_dget hu (pe_dget hu (pv 1) pe_str (fun _ _ => rfl)) (pe_ix (kIxT (K := K)) (pv 5) pe_int (fun _ _ => rfl)) (fun _ _ => rfl)))
    (pss_one (ps_if (pt_cmpR (kNotIn (K := K)) (pe_ix (kIxT (K := K)) (pv 6) pe_int (fun _ _ => rfl)) (pe_tup (pa_cons pe_str (pa_cons pe_str pa_nil))) (by rfl)) (pss_one (ps_dput hu (pv 3) (pe_ix (kIxT (K := K)) (pv 5) pe_int (fun _ _ => rfl)) (pe_tup (pa_cons (pv 6) (pa_cons pe_bl (pa_cons pe_bl pa_nil)))) rfl)) (pss_one (ps_if (pt_cmp (pc_din hu (pe_ix (kIxT (K := K)) (pv 6) pe_int (fun _ _ => rfl)) (pv 3)) (by rfl)) (pss_cons (ps_asg (pe_dget hu (pv 3) (pe_ix (kIxT (K := K)) (pv 6) pe_int (fun _ _ => rfl)) (fun _ _ => rfl)) (kTupG (K := K) (by rfl) (pgs_cons (pg_name (i := 8) sc_law_marked.nd rfl (Or.inl rfl)) (pgs_cons (pg_name (i := 9) sc_law_marked.nd rfl (Or.inl rfl)) (pgs_cons (pg_name (i := 10) sc_law_marked.nd rfl (Or.inl rfl)) pgs_nil)))))
    (pss_cons (ps_set (i := 7) sc_law_marked.nd rfl (Or.inl rfl) (pe_and (pe_cmpR op_eq (pe_ix (kIxT (K := K)) (pv 6) pe_int (fun _ _ => rfl)) pe_str (by rfl)) (pe_one (pe_not (pe_dget hu (pe_dget hu (pv 1) pe_str (fun _ _ => rfl)) (pe_ix (kIxT (K := K)) (pv 6) pe_int (fun _ _ => rfl)) (fun _ _ => rfl))))))
    (pss_cons (ps_if (PW.pt (pw_and (pt_val (pv 7)) (pw_and1 (pt_cmpR (kNotIn (K := K)) (pe_ix (kIxT (K := K)) (pv 6) pe_int (fun _ _ => rfl)) (pv 2) (by rfl))))) (pss_one (ps_set (i := 9) sc_law_marked.nd rfl (Or.inl rfl) pe_bl)) pss_nil)
    (pss_one (ps_dput hu (pv 3) (pe_ix (kIxT (K := K)) (pv 5) pe_int (fun _ _ => rfl)) (pe_tup (pa_cons (pv 8) (pa_cons (pv 9) (pa_cons (pe_or (pv 10) (pe_one (pv 7))) pa_nil)))) rfl))))) pss_nil))))))))
    (pss_one (ps_ret (pv 3)))))), ?_⟩
  have a : At O H [some m.d, some s.d, none, none, none, none, none, none, none, none, none] none (L2.start N_law_marked vs) H := At.begin_ (N := N_law_marked) hm
  have wm := wf.wm
  refine s_seq (s_asg (d := .lst ((clearL m).map .str)) hd (EvD.up ((EvN.toD (en_lc Thing.d m.things (fun t ρ => ρ.set 5 (some t.d)) (fun t => decide (("clear" : Str) ∈ t.traits)) (fun t => .str t.name) (ev_things (ev_var rfl)) (Nat.lt_of_le_of_lt wm.tl (by decide)) (fun _ _ => tg_name) (fun t _ => et_test (ev_op ev_str (ev_op (x := t.d) (ev_var rfl) ev_int (rd_ixT (d := .tup (t.traits.map .str)) rfl)) rd_inT)) (fun t _ _ => (ev_op (x := t.d) (ev_var rfl) ev_int (rd_ixT (d := .str t.name) rfl))))).is ?_)) (by decide) (fun σ H1 a => ?_) a)
  · unfold clearL
    rw [List.map_map]
    rfl
  refine s_seq (s_newM hd em_empty (Nat.le_of_ble_eq_true rfl) (fun σ H1 a => ?_) a)
  refine s_seq (s_forR (n := 13) hd (ea_cons ev_int ea_nil) (by decide) (fun _ => [some m.d, some s.d, some (.lst ((clearL m).map .str)), none, none, none, none, none, none, none, none]) (fun i => some (3, .M (mksD (mkAll m s i)))) (fun _ => True) rfl rfl trivial (fun n z => by cases z) (fun n hn _ σ H1 a => ?_) (fun _ σ H1 a => ?_) a)
  · refine s_for Thing.d m.things hd (ev_things (ev_var rfl)).up (fun _ => [some m.d, some s.d, some (.lst ((clearL m).map .str)), none, none, none, none, none, none, none, none]) (fun i => some (3, .M (mksD ((m.things.take i).foldl (mkStep m s) (mkAll m s n))))) (fun _ => True) (fun t ρ => ρ.set 5 (some t.d)) [5] (fun _ _ => tg_name) (fun n i z => by cases z; decide) rfl rfl trivial (fun Hb sb db i t hi _ σ H1 a => ?_) (fun _ σ H1 a => ⟨trivial, ?_⟩) (a.weak (.keep (.keep (.keep (.keep (.drop (.keep (.keep (.keep (.keep (.keep (.keep .nil))))))))))))
    · have ht := List.mem_of_getElem? hi
      have hx : t.name ∈ m.names := List.mem_map.mpr ⟨t, ht, rfl⟩
      have ef : (m.things.take (i + 1)).foldl (mkStep m s) (mkAll m s n) = mkStep m s ((m.things.take i).foldl (mkStep m s) (mkAll m s n)) t := by
        rw [List.take_add_one, hi, List.foldl_append]
        rfl
      have hz : (mksD ((m.things.take i).foldl (mkStep m s) (mkAll m s n))).length < 100000 := by
        unfold mksD
        rw [List.length_map]
        have h1 := mkF_len (m := m) (s := s) (m.things.take i) (mkAll m s n)
        have h2 := mkA_len (s := s) wm n
        have h3 : (m.things.take i).length ≤ m.things.length := by rw [List.length_take]; exact Nat.min_le_right ..
        have h4 := wm.tl
        omega
      rw [ef]
      generalize (m.things.take i).foldl (mkStep m s) (mkAll m s n) = l at a hz
      have hwt := wf.whF hx
      refine s_seq (s_asg db (ev_dget (ev_where (ev_var rfl)) (ev_op (x := t.d) (ev_var rfl) ev_int (rd_ixT (d := .str t.name) rfl)) (val_wh hwt)).up (by simp [wslot]) (fun σ H1 a => ?_) a)
      refine s_if (b := !isHeld (whF s t.name)) db (et_notheld (ev_var rfl)).up (fun hb σ H1 a => ?_) (fun hb σ H1 a => ?_) a
      · have hs : isHeld (whF s t.name) = false := by
          cases q : isHeld (whF s t.name) with
          | false => rfl
          | true => rw [q] at hb; cases hb
        refine s_dput (key := t.name) (d := mkD (whF s t.name, false, false)) db (ev_tup (ea_cons (ev_var rfl) (ea_cons ev_bl (ea_cons ev_bl ea_nil))) (by show 3 ≤ 100000; decide)).up (ev_op (x := t.d) (ev_var rfl) ev_int (rd_ixT (d := .str t.name) rfl)) hz (fun σ H1 a => ⟨trivial, ?_⟩) a
        rw [putM_D] at a
        rw [mkStep_stop hs]
        exact a.weak (.keep (.keep (.keep (.keep (.keep (.drop (.drop (.keep (.keep (.keep (.keep .nil)))))))))))
      · have hs : isHeld (whF s t.name) = true := by
          cases q : isHeld (whF s t.name) with
          | true => rfl
          | false => rw [q] at hb; cases hb
        obtain ⟨b, y, hw⟩ := held_link hs
        have hy := (rootF_step wf hx hw).1
        rw [hw] at a
        refine s_if (b := (valD (mksD l) y).isSome) db (etw_B (ew_din (ev_arg (p := (b, y)) (ev_var rfl)))) (fun hb2 σ H1 a => ?_) (fun hb2 σ H1 a => ⟨trivial, ?_⟩) a
        · rw [val_mk_some] at hb2
          obtain ⟨kk, hk⟩ := Option.isSome_iff_exists.mp hb2
          refine s_seq (s_asgT (d := mkD kk) db (ew_dget (ev_arg (p := (b, y)) (ev_var rfl)) (val_mk hk)) (tg_tup (tgs_cons tg_name (tgs_cons tg_name (tgs_cons tg_name tgs_nil))) rfl) (fun i z => by cases z; decide) (fun σ H1 a => ?_) a)
          have hop : b = true → look s.ops y = some (opn s y) := fun e => by
            subst e
            exact wf.opbox hx hw
          have ei : isIn (linkW (b, y)) = b := by unfold linkW; cases b <;> rfl
          refine s_seq (s_asg (d := .bl (b && !opn s y)) db (EvD.up (ev_andV ((ev_isin (w := linkW (b, y)) (ev_var rfl)).is (congrArg D.bl ei)) (fun e => ev_notV (ev_dget (ev_open (ev_var rfl)) (ev_arg (p := (b, y)) (ev_var rfl)) (val_bl (hop e)))))) (by simp [wslot]) (fun σ H1 a => ?_) a)
          refine s_seq (s_ifJ (b := (b && !opn s y) && !hasT m y "clear") (ρ' := [some m.d, some s.d, some (.lst ((clearL m).map .str)), none, none, some t.d, some (linkW (b, y)).d, some (.bl (b && !opn s y)), some kk.1.d, some (.bl (kk.2.1 || ((b && !opn s y) && !hasT m y "clear"))), some (.bl kk.2.2)]) (wn' := some (3, .M (mksD l))) db (et_and (et_B (ev_var rfl)) (fun _ => (et_test (ev_op (ev_arg (p := (b, y)) (ev_var rfl)) (ev_var rfl) rd_notInL)).is (congrArg _ (clear_mem wm hy)))).up (fun hb kk2 σ H1 a => ?_) (fun hb kk2 σ H1 a => ?_) (fun σ H1 a => ?_) a)
          · refine s_asg db ev_bl.up (by simp [wslot]) (fun σ H1 a => kk2 σ H1 ?_) a
            rw [hb, Bool.or_true]
            exact a
          · refine kk2 σ H1 ?_
            rw [hb, Bool.or_false]
            exact a
          · refine s_dput (key := t.name) (d := mkD (kk.1, (kk.2.1 || ((b && !opn s y) && !hasT m y "clear")), (kk.2.2 || (b && !opn s y)))) db (EvD.up (ev_tup (ea_cons (ev_var rfl) (ea_cons (ev_var rfl) (ea_cons (ev_orV (ev_var rfl) (fun _ => ev_var rfl)) ea_nil))) (by show 3 ≤ 100000; decide))) (ev_op (x := t.d) (ev_var rfl) ev_int (rd_ixT (d := .str t.name) rfl)) hz (fun σ H1 a => ⟨trivial, ?_⟩) a
            rw [putM_D] at a
            rw [mkStep_held hw hk]
            exact a.weak (.keep (.keep (.keep (.keep (.keep (.drop (.drop (.drop (.drop (.drop (.drop .nil)))))))))))
        · have hn : look l y = none := by
            rw [val_mk_some] at hb2
            cases q : look l y with
            | none => rfl
            | some k => rw [q] at hb2; cases hb2
          rw [mkStep_none hw hn]
          exact a.weak (.keep (.keep (.keep (.keep (.keep (.drop (.drop (.keep (.keep (.keep (.keep .nil)))))))))))
    · rw [List.take_of_length_le (Nat.le_refl _)] at a
      exact a
  · exact s_retOM k a
abbrev N_law_lit : List Str := ["_law_model_here", "_law_own_here", "_law_marked_here", "_law_place", "_law_row", "_law_near", "_law_root", "_law_hidden", "_law_kept"]
theorem sc_law_lit : FnScope N_law_lit ["_law_model_here", "_law_own_here", "_law_marked_here", "_law_place"] (defScope s_law_lit) := ⟨rfl, rfl, rfl, by decide +kernel, rfl, by decide +kernel, by decide +kernel⟩
theorem d_law_lit {P : Program} {w : World} {K : PySem.W.Frag} {mg : Str → Option Value} {base : Heap} {S W : Addr} {f : Addr} {fd : FuncData} (F : FunW K "_law_lit" "_law_lit" s_law_lit f fd) (T : Txt K mg S W)
    (c1 : CalF P w K mg base "_law_doors" 1 ["_law_model_here", "_law_place"] (SpN F_ldoors)) : FnOk P w K mg base CX0 2 f fd ["_law_model_here", "_law_own_here", "_law_marked_here", "_law_place"] (SpD F_llit) := by
  obtain ⟨_, _, G1, M1, K1, B1⟩ := c1.ex
  refine F.ok sc_law_lit (SpD.len (by rintro ds d ⟨m, s, mk, p, wf, mo, hp, rfl, rfl⟩; rfl)) (fun cdv A outer s0 H vs Q E hr h => ?_)
  have hu := hu_of hr
  have hu65 : (A.deeper (envOfC "_law_lit" (defScope s_law_lit) s0.heap.objs.size f cdv)).units + 65 < cLine := by have := hr.un; omega
  obtain ⟨O, ds, d, hd, hm, ⟨m, s, mk, p, wf, mo, hp, rfl, rfl⟩, k⟩ := h
  refine ⟨_, PSs.nox (pss_cons (ps_if (pt_cmpR (kInD (K := K) hu65) (pe_tup (pa_cons (pv 3) (pa_cons pe_bl pa_nil))) (pe_dget hu (pv 0) pe_str (fun _ _ => rfl)) (by rfl)) (pss_one (ps_ret pe_bl)) pss_nil)
    (pss_cons (ps_for PassesOwn.never rfl (kList (K := K) (pe_dget hu (pv 0) pe_str (fun _ _ => rfl))) (pg_name (i := 4) sc_law_lit.nd rfl (Or.inl rfl)) (pss_cons (ps_asg (pe_dget hu (pv 2) (pe_ix (kIxT (K := K)) (pv 4) pe_int (fun _ _ => rfl)) (fun _ _ => rfl)) (kTupG (K := K) (by rfl) (pgs_cons (pg_name (i := 6) sc_law_lit.nd rfl (Or.inl rfl)) (pgs_cons (pg_name (i := 7) sc_law_lit.nd rfl (Or.inl rfl)) (pgs_cons (pg_name (i := 8) sc_law_lit.nd rfl (Or.inl rfl)) pgs_nil)))))
    (pss_cons (ps_set (i := 5) sc_law_lit.nd rfl (Or.inl rfl) (pe_or (pe_cmpR (kEqD (K := K) hr.units) (pv 6) (pe_tup (pa_cons pe_str (pa_cons (pv 3) pa_nil))) (by rfl)) (pe_one (pe_and (pe_cmpR (kEqD (K := K) hr.units) (pv 6) (pe_tup (pa_cons pe_str pa_nil)) (by rfl)) (pe_one (pe_cmpR op_eq (pe_dget hu (pv 1) pe_str (fun _ _ => rfl)) (pv 3) (by rfl)))))))
    (pss_one (ps_if (PW.pt (pw_and (pt_cmpR (kIn (K := K)) pe_str (pe_ix (kIxT (K := K)) (pv 4) pe_int (fun _ _ => rfl)) (by rfl)) (pw_and (pt_not (pt_val (pv 7))) (pw_and1 (PW.pt (pw_or (pt_val (pv 5)) (pw_or1 (pt_cmpR (kIn (K := K)) (pe_ix (kIxT (K := K)) (pv 4) pe_int (fun _ _ => rfl)) (pe_call G1 (hr.mono (by decide)) rfl M1 K1 B1 .nil pass0 (pa_cons (pv 0) (pa_cons (pv 3) pa_nil))) (by rfl))))))))) (pss_one (ps_ret pe_bl)) pss_nil)))))
    (pss_one (ps_ret pe_bl)))), ?_⟩
  have a : At O H [some m.d, some s.d, some (.dic (mksD mk)), some (.str p), none, none, none, none, none] none (L2.start N_law_lit vs) H := At.begin_ (N := N_law_lit) hm
  have wm := wf.wm
  refine (q_when (b := !darkF m p) hd ((et_test (ev_op (ev_tup (ea_cons (ev_var rfl) (ea_cons ev_bl ea_nil)) (by show 2 ≤ 100000; decide)) (ev_places (ev_var rfl)) (rd_inP (p := (p, false)) (wm.pnameOk hp).2.2 (fun w hw => (wm.pok w hw).2.2)))).is (dark_mem wm hp)).up (fun hb σ H1 a => ?_) (fun hb σ H1 a => ?_) a)
  · have e : litF m s p = true := by unfold litF; rw [hb, Bool.true_or]
    rw [e] at k
    exact s_ret hd ev_bl.up k a
  have el : litF m s p = m.names.any (litX m s p) := by unfold litF; rw [hb, Bool.false_or]
  rw [el] at k
  refine s_seq (s_for Thing.d m.things hd (ev_things (ev_var rfl)).up (fun _ => [some m.d, some s.d, some (.dic (mksD mk)), some (.str p), none, none, none, none, none]) (fun _ => none) (fun i => ((m.things.take i).map (·.name)).any (litX m s p) = false) (fun t ρ => ρ.set 4 (some t.d)) [4] (fun _ _ => tg_name) (fun n i z => nomatch z) rfl rfl rfl
    (fun Hb sb db i t hi hP σ H1 a => ?_) (fun hP σ H1 a => ?_) a)
  · have ht := List.mem_of_getElem? hi
    have hx : t.name ∈ m.names := List.mem_map.mpr ⟨t, ht, rfl⟩
    obtain ⟨b, hm2⟩ := mo t.name hx
    have hat : ((m.things.take (i + 1)).map (·.name)).any (litX m s p) = (((m.things.take i).map (·.name)).any (litX m s p) || litX m s p t.name) := by
      rw [List.take_add_one, hi, List.map_append, List.any_append]
      simp
    have near : decide (rootF s t.name ∈ rootsL s p) = (decide (rootF s t.name = .at_ p) || (decide (rootF s t.name = .with_) && decide (s.here = p))) := by
      unfold rootsL
      by_cases q : s.here = p
      · rw [if_pos q]
        simp [q]
      · rw [if_neg q]
        simp [q]
    refine s_seq (s_asgT (d := mkD (rootF s t.name, hidF m s t.name, b)) db (EvD.up (ev_dget (ev_var rfl) (ev_op (x := t.d) (ev_var rfl) ev_int (rd_ixT (d := .str t.name) rfl)) (val_mk hm2))) (tg_tup (tgs_cons tg_name (tgs_cons tg_name (tgs_cons tg_name tgs_nil))) rfl) (fun i z => by cases z) (fun σ H1 a => ?_) a)
    refine s_seq (s_asg (d := .bl (decide (rootF s t.name ∈ rootsL s p))) db (EvD.up ((ev_orV (ev_op (ev_var rfl) (ev_at (ev_var rfl)) (rd_eqW (wf.rootok hx) (wm.placeOk hp))) (fun _ => ev_andV (ev_op (ev_var rfl) ev_with (rd_eqW (wf.rootok hx) rfl)) (fun _ => ev_op (ev_here (ev_var rfl)) (ev_var rfl) rd_eqS))).is (congrArg D.bl near.symm))) (by decide) (fun σ H1 a => ?_) a)
    have ex : litX m s p t.name = (decide (("lit" : Str) ∈ t.traits) && (!hidF m s t.name && (decide (rootF s t.name ∈ rootsL s p) || decide (t.name ∈ doorsF m p)))) := by
      unfold litX
      rw [hasT_t wm ht, Bool.and_assoc, Bool.or_comm (decide (t.name ∈ doorsF m p))]
    refine s_if (b := litX m s p t.name) db (EvT.up ((et_and (et_test (ev_op ev_str (ev_op (x := t.d) (ev_var rfl) ev_int (rd_ixT (d := .tup (t.traits.map .str)) rfl)) rd_inT)) (fun _ => et_and (et_not (et_B (ev_var rfl))) (fun _ => et_or (et_B (ev_var rfl)) (fun _ => et_test (ev_op (ev_op (x := t.d) (ev_var rfl) ev_int (rd_ixT (d := .str t.name) rfl)) (EvN.toD (en_call (ea_cons (ev_var rfl) (ea_cons (ev_var rfl) ea_nil)) ⟨m, p, wm, rfl, rfl⟩)) rd_inL))))).is ex.symm)) (fun hb σ H1 a => ?_) (fun hb σ H1 a => ⟨?_, ?_⟩) a
    · have e : m.names.any (litX m s p) = true := any_of _ hx hb
      rw [e] at k
      exact s_ret db ev_bl.up (fun v H2 s2 m2 => k v H2 (sb.trans s2) m2) a
    · rw [hat, hP, hb]
      rfl
    · exact a.weak (.keep (.keep (.keep (.keep (.drop (.drop (.drop (.drop (.drop .nil)))))))))
  · rw [List.take_of_length_le (Nat.le_refl _)] at hP
    have e : m.names.any (litX m s p) = false := hP
    rw [e] at k
    dsimp only
    exact s_ret hd ev_bl.up k a
abbrev N_law_seen : List Str := ["_law_model_here", "_law_own_here", "_law_marked_here", "_law_place", "_law_is_light", "_law_found", "_law_row", "_law_near", "_law_root", "_law_hidden", "_law_kept"]
theorem sc_law_seen : FnScope N_law_seen ["_law_model_here", "_law_own_here", "_law_marked_here"] (defScope s_law_seen) := ⟨rfl, rfl, rfl, by decide +kernel, rfl, by decide +kernel, by decide +kernel⟩
theorem d_law_seen {P : Program} {w : World} {K : PySem.W.Frag} {mg : Str → Option Value} {base : Heap} {S W : Addr} {f : Addr} {fd : FuncData} (F : FunW K "_law_seen" "_law_seen" s_law_seen f fd) (T : Txt K mg S W)
    (c1 : CalF P w K mg base "_law_lit" 2 ["_law_model_here", "_law_own_here", "_law_marked_here", "_law_place"] (SpD F_llit))
    (c2 : CalF P w K mg base "_law_doors" 1 ["_law_model_here", "_law_place"] (SpN F_ldoors)) : FnOk P w K mg base CX0 3 f fd ["_law_model_here", "_law_own_here", "_law_marked_here"] (SpN F_lseen) := by
  obtain ⟨_, _, G1, M1, K1, B1⟩ := c1.ex
  obtain ⟨_, _, G2, M2, K2, B2⟩ := c2.ex
  refine F.ok sc_law_seen (SpN.len (by rintro ds d ⟨m, s, mk, wf, mo, rfl, rfl⟩; rfl)) (fun cdv A outer s0 H vs Q E hr h => ?_)
  have hu := hu_of hr
  obtain ⟨O, ds, d, hd, hm, ⟨m, s, mk, wf, mo, rfl, rfl⟩, k⟩ := h
  refine ⟨_, PSs.nox (pss_cons (ps_set (i := 3) sc_law_seen.nd rfl (Or.inl rfl) (pe_dget hu (pv 1) pe_str (fun _ _ => rfl)))
    (pss_cons (ps_set (i := 4) sc_law_seen.nd rfl (Or.inl rfl) (pe_call G1 (hr.mono (by decide)) rfl M1 K1 B1 .nil pass0 (pa_cons (pv 0) (pa_cons (pv 1) (pa_cons (pv 2) (pa_cons (pv 3) pa_nil))))))
    (pss_cons (ps_set (i := 5) sc_law_seen.nd rfl (Or.inl rfl) (pe_lst pa_nil))
    (pss_cons (ps_for PassesOwn.never rfl (kList (K := K) (pe_dget hu (pv 0) pe_str (fun _ _ => rfl))) (pg_name (i := 6) sc_law_seen.nd rfl (Or.inl rfl)) (pss_cons (ps_asg (pe_dget hu (pv 2) (pe_ix (kIxT (K := K)) (pv 6) pe_int (fun _ _ => rfl)) (fun _ _ => rfl)) (kTupG (K := K) (by rfl) (pgs_cons (pg_name (i := 8) sc_law_seen.nd rfl (Or.inl rfl)) (pgs_cons (pg_name (i := 9) sc_law_seen.nd rfl (Or.inl rfl)) (pgs_cons (pg_name (i := 10) sc_law_seen.nd rfl (Or.inl rfl)) pgs_nil)))))
    (pss_cons (ps_set (i := 7) sc_law_seen.nd rfl (Or.inl rfl) (pe_or (pe_cmpR (kEqD (K := K) hr.units) (pv 8) (pe_tup (pa_cons pe_str pa_nil)) (by rfl)) (pe_one (pe_and (pv 4) (pe_one (pe_cmpR (kEqD (K := K) hr.units) (pv 8) (pe_tup (pa_cons pe_str (pa_cons (pv 3) pa_nil))) (by rfl)))))))
    (pss_one (ps_if (PW.pt (pw_or (PW.pt (pw_and (pt_val (pv 7)) (pw_and1 (pt_not (pt_val (pv 9)))))) (pw_or1 (PW.pt (pw_and (pt_val (pv 4)) (pw_and1 (pt_cmpR (kIn (K := K)) (pe_ix (kIxT (K := K)) (pv 6) pe_int (fun _ _ => rfl)) (pe_call G2 (hr.mono (by decide)) rfl M2 K2 B2 .nil pass0 (pa_cons (pv 0) (pa_cons (pv 3) pa_nil))) (by rfl)))))))) (pss_one (ps_expr (pe_bm PySem.F.plainAttrs_list PySem.F.slot_list_append PySem.F.type_list_append mt_append (pv 5) (pa_cons (pe_ix (kIxT (K := K)) (pv 6) pe_int (fun _ _ => rfl)) pa_nil)))) pss_nil)))))
    (pss_one (ps_ret (pv 5))))))), ?_⟩
  have a : At O H [some m.d, some s.d, some (.dic (mksD mk)), none, none, none, none, none, none, none, none] none (L2.start N_law_seen vs) H := At.begin_ (N := N_law_seen) hm
  have wm := wf.wm
  have hp := wf.hk
  refine s_seq (s_asg hd (ev_here (ev_var rfl)).up (by decide) (fun σ H1 a => ?_) a)
  refine s_seq (s_asg hd (ev_call (ea_cons (ev_var rfl) (ea_cons (ev_var rfl) (ea_cons (ev_var rfl) (ea_cons (ev_var rfl) ea_nil)))) ⟨m, s, mk, _, wf, mo, hp, rfl, rfl⟩).up (by decide) (fun σ H1 a => ?_) a)
  refine s_seq (s_new hd (en_lst ea_nil (Nat.zero_le _)) (Nat.le_of_ble_eq_true rfl) (fun σ H1 a => ?_) a)
  generalize hlit : litF m s s.here = lit at a
  have ee : seenF m s = m.names.filter (seenX m s lit) := by unfold seenF; rw [hlit]
  rw [ee] at k
  refine s_seq (s_for Thing.d m.things hd (ev_things (ev_var rfl)).up (fun _ => [some m.d, some s.d, some (.dic (mksD mk)), some (.str s.here), some (.bl lit), none, none, none, none, none, none]) (fun i => some (5, .L ((((m.things.take i).map (·.name)).filter (seenX m s lit)).map .str))) (fun _ => True) (fun t ρ => ρ.set 6 (some t.d)) [6] (fun _ _ => tg_name) (fun n i z => by cases z; decide) rfl rfl trivial
    (fun Hb sb db i t hi _ σ H1 a => ?_) (fun _ σ H1 a => ?_) a)
  · have ht := List.mem_of_getElem? hi
    have hx : t.name ∈ m.names := List.mem_map.mpr ⟨t, ht, rfl⟩
    obtain ⟨b, hm2⟩ := mo t.name hx
    have ft : ((m.things.take (i + 1)).map (·.name)).filter (seenX m s lit) = ((m.things.take i).map (·.name)).filter (seenX m s lit) ++ (if seenX m s lit t.name = true then [t.name] else []) := by
      rw [List.take_add_one, hi, List.map_append, List.filter_append]
      congr 1
      cases q : seenX m s lit t.name <;> simp [q]
    have near : decide (rootF s t.name ∈ rootsS s lit) = (decide (rootF s t.name = .with_) || (lit && decide (rootF s t.name = .at_ s.here))) := by
      unfold rootsS
      cases lit <;> simp
    refine s_seq (s_asgT (d := mkD (rootF s t.name, hidF m s t.name, b)) db (EvD.up (ev_dget (ev_var rfl) (ev_op (x := t.d) (ev_var rfl) ev_int (rd_ixT (d := .str t.name) rfl)) (val_mk hm2))) (tg_tup (tgs_cons tg_name (tgs_cons tg_name (tgs_cons tg_name tgs_nil))) rfl) (fun i z => by cases z; decide) (fun σ H1 a => ?_) a)
    refine s_seq (s_asg (d := .bl (decide (rootF s t.name ∈ rootsS s lit))) db (EvD.up ((ev_orV (ev_op (ev_var rfl) ev_with (rd_eqW (wf.rootok hx) rfl)) (fun _ => ev_andV (ev_var rfl) (fun _ => ev_op (ev_var rfl) (ev_at (ev_var rfl)) (rd_eqW (wf.rootok hx) (wm.placeOk hp))))).is (congrArg D.bl near.symm))) (by simp [wslot]) (fun σ H1 a => ?_) a)
    have ex : seenX m s lit t.name = ((decide (rootF s t.name ∈ rootsS s lit) && !hidF m s t.name) || (lit && decide (t.name ∈ doorsF m s.here))) := by
      unfold seenX
      rw [Bool.or_comm]
      cases lit <;> simp
    refine s_if (b := seenX m s lit t.name) db (EvT.up ((et_or (et_and (et_B (ev_var rfl)) (fun _ => et_not (et_B (ev_var rfl)))) (fun _ => et_and (et_B (ev_var rfl)) (fun _ => et_test (ev_op (ev_op (x := t.d) (ev_var rfl) ev_int (rd_ixT (d := .str t.name) rfl)) (EvN.toD (en_call (ea_cons (ev_var rfl) (ea_cons (ev_var rfl) ea_nil)) ⟨m, _, wm, rfl, rfl⟩)) rd_inL)))).is ex.symm)) (fun hb σ H1 a => ?_) (fun hb σ H1 a => ⟨trivial, ?_⟩) a
    · refine s_app db (ev_op (x := t.d) (ev_var rfl) ev_int (rd_ixT (d := .str t.name) rfl)).up ?_ (fun σ H1 a => ⟨trivial, ?_⟩) a
      · rw [List.length_map]
        refine Nat.lt_of_le_of_lt (List.length_filter_le ..) ?_
        rw [List.length_map, List.length_take]
        exact Nat.lt_of_le_of_lt (Nat.min_le_right ..) (Nat.lt_of_le_of_lt wm.tl (by decide))
      · rw [ft, if_pos hb, List.map_append]
        exact a.weak (.keep (.keep (.keep (.keep (.keep (.keep (.drop (.drop (.drop (.drop (.drop .nil)))))))))))
    · rw [ft, if_neg (show ¬ seenX m s lit t.name = true by rw [hb]; decide), List.append_nil]
      exact a.weak (.keep (.keep (.keep (.keep (.keep (.keep (.drop (.drop (.drop (.drop (.drop .nil)))))))))))
  · rw [List.take_of_length_le (Nat.le_refl _)] at a
    exact s_retO k a
abbrev N_law_ways_row : List Str := ["_law_model_here", "_law_own_here", "_law_found", "_law_direction", "_law_way", "_law_shut"]
theorem sc_law_ways_row : FnScope N_law_ways_row ["_law_model_here", "_law_own_here"] (defScope s_law_ways_row) := ⟨rfl, rfl, rfl, by decide +kernel, rfl, by decide +kernel, by decide +kernel⟩
theorem d_law_ways_row {P : Program} {w : World} {K : PySem.W.Frag} {mg : Str → Option Value} {base : Heap} {S W : Addr} {f : Addr} {fd : FuncData} (F : FunW K "_law_ways_row" "_law_ways_row" s_law_ways_row f fd) (T : Txt K mg S W) : FnOk P w K mg base CX0 1 f fd ["_law_model_here", "_law_own_here"] (SpN F_lways) := by
  refine F.ok sc_law_ways_row (SpN.len (by rintro ds d ⟨m, s, wf, rfl, rfl⟩; rfl)) (fun cdv A outer s0 H vs Q E hr h => ?_)
  have hu := hu_of hr
  obtain ⟨O, ds, d, hd, hm, ⟨m, s, wf, rfl, rfl⟩, k⟩ := h
  refine ⟨_, PSs.nox (pss_cons (ps_set (i := 2) sc_law_ways_row.nd rfl (Or.inl rfl) (pe_lst pa_nil))
    (pss_cons (ps_for PassesOwn.never rfl (kList (K := K) (pe_lst (pa_cons pe_str (pa_cons pe_str (pa_cons pe_str (pa_cons pe_str (pa_cons pe_str (pa_cons pe_str pa_nil)))))))) (pg_name (i := 3) sc_law_ways_row.nd rfl (Or.inl rfl)) (pss_one (ps_for PassesOwn.never rfl (kList (K := K) (pe_dget hu (pv 0) pe_str (fun _ _ => rfl))) (pg_name (i := 4) sc_law_ways_row.nd rfl (Or.inl rfl)) (pss_one (ps_if (PW.pt (pw_and (pt_cmpR op_eq (pe_ix (kIxT (K := K)) (pv 4) pe_int (fun _ _ => rfl)) (pe_dget hu (pv 1) pe_str (fun _ _ => rfl)) (by rfl)) (pw_and1 (pt_cmpR op_eq (pe_ix (kIxT (K := K)) (pv 4) pe_int (fun _ _ => rfl)) (pv 3) (by rfl))))) (pss_cons (ps_set (i := 5) sc_law_ways_row.nd rfl (Or.inl rfl) (pe_and (pe_cmpR op_ne (pe_ix (kIxT (K := K)) (pv 4) pe_int (fun _ _ => rfl)) pe_str (by rfl)) (pe_one (pe_not (pe_dget hu (pe_dget hu (pv 1) pe_str (fun _ _ => rfl)) (pe_ix (kIxT (K := K)) (pv 4) pe_int (fun _ _ => rfl)) (fun _ _ => rfl))))))
    (pss_one (ps_expr (pe_bm PySem.F.plainAttrs_list PySem.F.slot_list_append PySem.F.type_list_append mt_append (pv 2) (pa_cons (pe_op op_add_str (pv 3) (pe_op op_repS pe_str (pe_callTy call_int1 (by rfl) T.int (by decide +kernel) (pa_cons (pv 5) pa_nil)))) pa_nil))))) pss_nil)))))
    (pss_one (ps_ret (pv 2))))), ?_⟩
  have a : At O H [some m.d, some s.d, none, none, none, none] none (L2.start N_law_ways_row vs) H := At.begin_ (N := N_law_ways_row) hm
  have wm := wf.wm
  have e7 : (" (shut)" : Str).length = 7 := by decide +kernel
  have e0 : Str.empty.length = 0 := rfl
  have hfl : ∀ l : List Str, (l.flatMap (lblsL m s)).length ≤ 14 * l.length := fun l => by
    induction l with
    | nil => simp
    | cons y r ih =>
      rw [List.flatMap_cons, List.length_append, List.length_cons]
      have h1 : (lblsL m s y).length ≤ 14 := by
        unfold lblsL
        rw [List.length_map]
        exact Nat.le_trans (List.length_filter_le ..) wm.yl
      omega
  refine s_seq (s_new hd (en_lst ea_nil (Nat.zero_le _)) (Nat.le_of_ble_eq_true rfl) (fun σ H1 a => ?_) a)
  refine s_seq (s_for D.str dirs hd (EvN.toD (en_lst (ea_cons ev_str (ea_cons ev_str (ea_cons ev_str (ea_cons ev_str (ea_cons ev_str (ea_cons ev_str ea_nil)))))) (by show 6 ≤ 100000; decide))).up (fun _ => [some m.d, some s.d, none, none, none, none]) (fun i => some (2, .L (((dirs.take i).flatMap (lblsL m s)).map .str))) (fun _ => True) (fun x ρ => ρ.set 3 (some (.str x))) [3] (fun _ _ => tg_name) (fun n i z => by cases z; decide) rfl rfl trivial
    (fun Hb sb db i d hi _ σ H1 a => ?_) (fun _ σ H1 a => ?_) a)
  · have hdm := List.mem_of_getElem? hi
    have ef : (dirs.take (i + 1)).flatMap (lblsL m s) = (dirs.take i).flatMap (lblsL m s) ++ lblsL m s d := by
      rw [List.take_add_one, hi, List.flatMap_append]
      simp
    have hl : ((dirs.take i).flatMap (lblsL m s)).length ≤ 84 := by
      have h1 := hfl (dirs.take i)
      have h2 : (dirs.take i).length ≤ 6 := by rw [List.length_take]; exact Nat.min_le_right ..
      omega
    rw [ef]
    generalize (dirs.take i).flatMap (lblsL m s) = B at a hl
    refine s_for Way.d m.ways db (ev_ways (ev_var rfl)).up (fun _ => [some m.d, some s.d, none, some (.str d), none, none]) (fun i => some (2, .L ((B ++ ((m.ways.take i).filter fun y => decide (y.src = s.here) && decide (y.dir = d)).map (wayT s)).map .str))) (fun _ => True) (fun y ρ => ρ.set 4 (some y.d)) [4] (fun _ _ => tg_name) (fun n i z => by cases z; decide) rfl (by show some (2, OC.L ((B ++ []).map .str)) = _; rw [List.append_nil]) trivial
      (fun Hc sc dc i y hi _ σ H1 a => ?_) (fun _ σ H1 a => ⟨trivial, ?_⟩) a
    · have hy := List.mem_of_getElem? hi
      have ft := filter_take (fun y : Way => decide (y.src = s.here) && decide (y.dir = d)) m.ways hi
      refine s_if (b := decide (y.src = s.here) && decide (y.dir = d)) dc (EvT.up (et_and (et_test (ev_op (ev_op (x := y.d) (ev_var rfl) ev_int (rd_ixT (d := .str y.src) rfl)) (ev_here (ev_var rfl)) rd_eqS)) (fun _ => et_test (ev_op (ev_op (x := y.d) (ev_var rfl) ev_int (rd_ixT (d := .str y.dir) rfl)) (ev_var rfl) rd_eqS)))) (fun hb σ H1 a => ?_) (fun hb σ H1 a => ⟨trivial, ?_⟩) a
      · have ed : y.dir = d := of_decide_eq_true (Bool.and_eq_true_iff.mp hb).2
        refine s_seq (s_asg (d := .bl (!decide (y.door = Str.empty) && !opn s y.door)) dc (EvD.up (ev_andV (ev_op (ev_op (x := y.d) (ev_var rfl) ev_int (rd_ixT (d := .str y.door) rfl)) ev_str rd_neS) (fun hne => ev_notV (ev_dget (ev_open (ev_var rfl)) (ev_op (x := y.d) (ev_var rfl) ev_int (rd_ixT (d := .str y.door) rfl)) (val_bl ?_))))) (by simp [wslot]) (fun σ H1 a => ?_) a)
        · rcases wm.ydoor y hy with e | ⟨t, ht, e, hdr⟩
          · rw [e] at hne
            exact absurd hne (by decide +kernel)
          · rw [← e]
            exact wf.opl (thg_of_mem wm.tn ht) (by unfold lidded; rw [decide_eq_true hdr, Bool.or_true])
        refine s_app (d := .str (wayT s y)) dc (EvD.up ((ev_op (ev_var rfl) (ev_op ev_str (ev_cb (ea_cons (ev_var rfl) ea_nil) cd_intB) (rd_repS (r := !decide (y.door = Str.empty) && !opn s y.door) (by decide +kernel))) (rd_addS ?_)).is ?_)) ?_ (fun σ H1 a => ⟨trivial, ?_⟩) a
        · have h1 := dir_len hdm
          split <;> omega
        · unfold wayT
          rw [ed]
        · rw [List.length_map, List.length_append, List.length_map]
          have h1 := List.length_filter_le (fun y : Way => decide (y.src = s.here) && decide (y.dir = d)) (m.ways.take i)
          have h2 : (m.ways.take i).length ≤ m.ways.length := by rw [List.length_take]; exact Nat.min_le_right ..
          have h3 := wm.yl
          omega
        · have e : ∀ l : List Way, List.map D.str (B ++ List.map (wayT s) (l ++ [y])) = List.map D.str (B ++ List.map (wayT s) l) ++ [D.str (wayT s y)] := fun l => by simp
          rw [ft, if_pos hb, e]
          exact a.weak (.keep (.keep (.keep (.keep (.drop (.drop .nil))))))
      · rw [ft, if_neg (show ¬ (decide (y.src = s.here) && decide (y.dir = d)) = true by rw [hb]; decide), List.append_nil]
        exact a.weak (.keep (.keep (.keep (.keep (.drop (.keep .nil))))))
    · rw [List.take_of_length_le (Nat.le_refl _)] at a
      exact a.weak (.keep (.keep (.keep (.drop (.keep (.keep .nil))))))
  · rw [List.take_of_length_le (Nat.le_refl _)] at a
    exact s_retO k a
abbrev N_law_told : List Str := ["_law_own_here", "_law_opened", "_law_worn", "_law_wheres", "_law_numbers", "_law_thing", "_law_name"]
theorem sc_law_told : FnScope N_law_told ["_law_own_here"] (defScope s_law_told) := ⟨rfl, rfl, rfl, by decide +kernel, rfl, by decide +kernel, by decide +kernel⟩
theorem d_law_told {P : Program} {w : World} {K : PySem.W.Frag} {mg : Str → Option Value} {base : Heap} {S W : Addr} {f : Addr} {fd : FuncData} (F : FunW K "_law_told" "_law_told" s_law_told f fd) (T : Txt K mg S W) : FnOk P w K mg base CX0 1 f fd ["_law_own_here"] (SpD F_ltold) := by
  refine F.ok sc_law_told (SpD.len (by rintro ds d ⟨m, s, wf, rfl, rfl⟩; rfl)) (fun cdv A outer s0 H vs Q E hr h => ?_)
  have hu := hu_of hr
  obtain ⟨O, ds, d, hd, hm, ⟨m, s, wf, rfl, rfl⟩, k⟩ := h
  refine ⟨_, PSs.nox (pss_cons (ps_set (i := 1) sc_law_told.nd rfl (Or.inl rfl) (pe_callTy (kTupOf (K := K)) (by rfl) T.tuple (by decide +kernel) (pa_cons (pe_lockO (pe_lc (own := [("_law_thing", 5)]) (g := (gName 5)) rfl sc_law_told.nd (pi_keys (pe_dget hu (pv 0) pe_str (fun _ _ => rfl))) (blkOk_by (own := [("_law_thing", 5)]) (N := N_law_told) (sc := defScope s_law_told) (by decide +kernel)) (fun _ _ _ _ _ => (pg_name (i := 5) sc_law_told.nd rfl (Or.inl rfl))) (fun _ _ _ _ _ => (pts_one (pt_val (pe_dget hu (pe_dget hu (pv 0) pe_str (fun _ _ => rfl)) (pv 5) (fun _ _ => rfl))))) (fun _ _ _ _ _ => (pv 5)))) pa_nil)))
    (pss_cons (ps_set (i := 2) sc_law_told.nd rfl (Or.inl rfl) (pe_callTy (kTupOf (K := K)) (by rfl) T.tuple (by decide +kernel) (pa_cons (pe_lockO (pe_lc (own := [("_law_thing", 5)]) (g := (gName 5)) rfl sc_law_told.nd (pi_keys (pe_dget hu (pv 0) pe_str (fun _ _ => rfl))) (blkOk_by (own := [("_law_thing", 5)]) (N := N_law_told) (sc := defScope s_law_told) (by decide +kernel)) (fun _ _ _ _ _ => (pg_name (i := 5) sc_law_told.nd rfl (Or.inl rfl))) (fun _ _ _ _ _ => (pts_one (pt_val (pe_dget hu (pe_dget hu (pv 0) pe_str (fun _ _ => rfl)) (pv 5) (fun _ _ => rfl))))) (fun _ _ _ _ _ => (pv 5)))) pa_nil)))
    (pss_cons (ps_set (i := 3) sc_law_told.nd rfl (Or.inl rfl) (pe_callTy (kTupOf (K := K)) (by rfl) T.tuple (by decide +kernel) (pa_cons (pe_lockO (pe_lc (own := [("_law_thing", 5)]) (g := (gName 5)) (tt := tYes) rfl sc_law_told.nd (pi_keys (pe_dget hu (pv 0) pe_str (fun _ _ => rfl))) (blkOk_by (own := [("_law_thing", 5)]) (N := N_law_told) (sc := defScope s_law_told) (by decide +kernel)) (fun _ _ _ _ _ => (pg_name (i := 5) sc_law_told.nd rfl (Or.inl rfl))) (fun _ _ _ _ _ => pts_nil) (fun _ _ _ _ _ => (pe_dget hu (pe_dget hu (pv 0) pe_str (fun _ _ => rfl)) (pv 5) (fun _ _ => rfl))))) pa_nil)))
    (pss_cons (ps_set (i := 4) sc_law_told.nd rfl (Or.inl rfl) (pe_callTy (kTupOf (K := K)) (by rfl) T.tuple (by decide +kernel) (pa_cons (pe_lockO (pe_lc (own := [("_law_name", 6)]) (g := (gName 6)) (tt := tYes) rfl sc_law_told.nd (pi_keys (pe_dget hu (pv 0) pe_str (fun _ _ => rfl))) (blkOk_by (own := [("_law_name", 6)]) (N := N_law_told) (sc := defScope s_law_told) (by decide +kernel)) (fun _ _ _ _ _ => (pg_name (i := 6) sc_law_told.nd rfl (Or.inl rfl))) (fun _ _ _ _ _ => pts_nil) (fun _ _ _ _ _ => (pe_dget hu (pe_dget hu (pv 0) pe_str (fun _ _ => rfl)) (pv 6) (fun _ _ => rfl))))) pa_nil)))
    (pss_one (ps_ret (pe_tup (pa_cons (pe_dget hu (pv 0) pe_str (fun _ _ => rfl)) (pa_cons (pe_dget hu (pv 0) pe_str (fun _ _ => rfl)) (pa_cons (pv 3) (pa_cons (pv 1) (pa_cons (pv 2) (pa_cons (pv 4) pa_nil))))))))))))), ?_⟩
  have a : At O H [some s.d, none, none, none, none, none, none] none (L2.start N_law_told vs) H := At.begin_ (N := N_law_told) hm
  have wm := wf.wm
  have nw : (s.whs.map (·.1)).Nodup := by rw [wf.wk]; exact wm.tn
  have nn : (s.nums.map (·.1)).Nodup := by rw [wf.nk]; exact wm.sn
  have lw : s.whs.length ≤ 12 := by
    have := congrArg List.length wf.wk
    rw [List.length_map, List.length_map] at this
    rw [this]
    exact wm.tl
  have ln : s.nums.length ≤ 6 := by
    have := congrArg List.length wf.nk
    rw [List.length_map, List.length_map] at this
    rw [this]
    exact wm.sl
  have lo : s.ops.length ≤ 12 := by
    have := congrArg List.length wf.ok
    rw [List.length_map, List.length_map] at this
    rw [this]
    exact Nat.le_trans (List.length_filter_le ..) wm.tl
  have lv : s.worn.length ≤ 12 := by
    have := congrArg List.length wf.wok
    rw [List.length_map, List.length_map] at this
    rw [this]
    exact wm.tl
  have b1 : (blsD s.ops).length < 100000 := by unfold blsD; rw [List.length_map]; omega
  have b2 : (blsD s.worn).length < 100000 := by unfold blsD; rw [List.length_map]; omega
  have b3 : (whsD s.whs).length < 100000 := by unfold whsD; rw [List.length_map]; omega
  have b4 : (numsD s.nums).length < 100000 := by unfold numsD; rw [List.length_map]; omega
  have lkB : ∀ {l : List (Str × Bool)} {x : Str}, x ∈ (blsD l).map (·.1) → valD (blsD l) x = some (.bl ((look l x).getD false)) := fun {l x} hx => by
    rw [bls_keys] at hx
    obtain ⟨b, e⟩ := look_some hx
    rw [val_bl e, e]
    rfl
  have lkW : ∀ {x : Str}, x ∈ (whsD s.whs).map (·.1) → valD (whsD s.whs) x = some (((look s.whs x).getD .nowhere).d) := fun {x} hx => by
    rw [whs_keys] at hx
    obtain ⟨b, e⟩ := look_some hx
    rw [val_wh e, e]
    rfl
  have nums_keys : (numsD s.nums).map (·.1) = s.nums.map (·.1) := by
    unfold numsD
    rw [List.map_map]
    rfl
  have lkN : ∀ {x : Str}, x ∈ (numsD s.nums).map (·.1) → valD (numsD s.nums) x = some (.int ((look s.nums x).getD 0)) := fun {x} hx => by
    rw [nums_keys] at hx
    obtain ⟨b, e⟩ := look_some hx
    rw [val_num e, e]
    rfl
  refine s_seq (s_asg (d := .tup (((s.ops.map (·.1)).filter (opn s)).map .str)) hd (EvD.up ((ev_cb (ea_cons (EvN.toD (en_lcK (opn s) D.str (ep_dget (ep_var rfl) (valD_at (keys := owKeys) 3 rfl (by decide +kernel) rfl)) b1 (fun x hx => et_B (ev_dget (ev_open (ev_var rfl)) (ev_var rfl) (lkB hx))) (fun x _ _ => ev_var rfl))) ea_nil) cd_tupL).is ?_)) (by decide) (fun σ H1 a => ?_) a)
  · rw [bls_keys]
  refine s_seq (s_asg (d := .tup (((s.worn.map (·.1)).filter (wornF s)).map .str)) hd (EvD.up ((ev_cb (ea_cons (EvN.toD (en_lcK (wornF s) D.str (ep_dget (ep_var rfl) (valD_at (keys := owKeys) 4 rfl (by decide +kernel) rfl)) b2 (fun x hx => et_B (ev_dget (ev_worn (ev_var rfl)) (ev_var rfl) (lkB hx))) (fun x _ _ => ev_var rfl))) ea_nil) cd_tupL).is ?_)) (by decide) (fun σ H1 a => ?_) a)
  · rw [bls_keys]
  refine s_seq (s_asg (d := .tup (s.whs.map fun p => p.2.d)) hd (EvD.up ((ev_cb (ea_cons (EvN.toD (en_lcK (fun _ => true) (fun x => ((look s.whs x).getD .nowhere).d) (ep_dget (ep_var rfl) (valD_at (keys := owKeys) 2 rfl (by decide +kernel) rfl)) b3 (fun x hx => et_yes) (fun x hx _ => ev_dget (ev_where (ev_var rfl)) (ev_var rfl) (lkW hx)))) ea_nil) cd_tupL).is ?_)) (by decide) (fun σ H1 a => ?_) a)
  · rw [whs_keys, List.filter_eq_self.mpr fun _ _ => rfl]
    exact congrArg D.tup (look_val Wh.d nw .nowhere)
  refine s_seq (s_asg (d := .tup (s.nums.map fun p => .int p.2)) hd (EvD.up ((ev_cb (ea_cons (EvN.toD (en_lcK (fun _ => true) (fun x => .int ((look s.nums x).getD 0)) (ep_dget (ep_var rfl) (valD_at (keys := owKeys) 5 rfl (by decide +kernel) rfl)) b4 (fun x hx => et_yes) (fun x hx _ => ev_dget (ev_numbers (ev_var rfl)) (ev_var rfl) (lkN hx)))) ea_nil) cd_tupL).is ?_)) (by decide) (fun σ H1 a => ?_) a)
  · rw [nums_keys, List.filter_eq_self.mpr fun _ _ => rfl]
    exact congrArg D.tup (look_val D.int nn 0)
  exact s_ret hd (ev_tup (ea_cons (ev_here (ev_var rfl)) (ea_cons (ev_turn (ev_var rfl)) (ea_cons (ev_var rfl) (ea_cons (ev_var rfl) (ea_cons (ev_var rfl) (ea_cons (ev_var rfl) ea_nil)))))) (by show 6 ≤ 100000; decide)).up k a
abbrev N_S_told : List Str := ["self", "opened", "worn", "thing"]
theorem sc_S_told : FnScope N_S_told ["self"] (defScope s_S_told) := ⟨rfl, rfl, rfl, by decide +kernel, rfl, by decide +kernel, by decide +kernel⟩
theorem d_S_told {P : Program} {w : World} {K : PySem.W.Frag} {mg : Str → Option Value} {base : Heap} {S W : Addr} {f : Addr} {fd : FuncData} (F : FunW K "told" "State.told" s_S_told f fd) (T : Txt K mg S W) : FnOk P w K mg base CX0 1 f fd ["self"] (SpD (F_told S W)) := by
  refine F.ok sc_S_told (SpD.len (by rintro ds d ⟨m, s, wf, rfl, rfl⟩; rfl)) (fun cdv A outer s0 H vs Q E hr h => ?_)
  have hu := hu_of hr
  obtain ⟨O, ds, d, hd, hm, ⟨m, s, wf, rfl, rfl⟩, k⟩ := h
  refine ⟨_, PSs.nox (pss_cons (ps_set (i := 1) sc_S_told.nd rfl (Or.inl rfl) (pe_callTy (kTupOf (K := K)) (by rfl) T.tuple (by decide +kernel) (pa_cons (pe_lockO (pe_lc (own := [("thing", 3)]) (g := (gName 3)) rfl sc_S_told.nd (pi_keys (kFld (K := K) (pv 0) rfl)) (blkOk_by (own := [("thing", 3)]) (N := N_S_told) (sc := defScope s_S_told) (by decide +kernel)) (fun _ _ _ _ _ => (pg_name (i := 3) sc_S_told.nd rfl (Or.inl rfl))) (fun _ _ _ _ _ => (pts_one (pt_val (pe_dget hu (kFld (K := K) (pv 0) rfl) (pv 3) (fun _ _ => rfl))))) (fun _ _ _ _ _ => (pv 3)))) pa_nil)))
    (pss_cons (ps_set (i := 2) sc_S_told.nd rfl (Or.inl rfl) (pe_callTy (kTupOf (K := K)) (by rfl) T.tuple (by decide +kernel) (pa_cons (pe_lockO (pe_lc (own := [("thing", 3)]) (g := (gName 3)) rfl sc_S_told.nd (pi_keys (kFld (K := K) (pv 0) rfl)) (blkOk_by (own := [("thing", 3)]) (N := N_S_told) (sc := defScope s_S_told) (by decide +kernel)) (fun _ _ _ _ _ => (pg_name (i := 3) sc_S_told.nd rfl (Or.inl rfl))) (fun _ _ _ _ _ => (pts_one (pt_val (pe_dget hu (kFld (K := K) (pv 0) rfl) (pv 3) (fun _ _ => rfl))))) (fun _ _ _ _ _ => (pv 3)))) pa_nil)))
    (pss_one (ps_ret (pe_tup (pa_cons (kFld (K := K) (pv 0) rfl) (pa_cons (kFld (K := K) (pv 0) rfl) (pa_cons (pe_callTy (kTupOf (K := K)) (by rfl) T.tuple (by decide +kernel) (pa_cons (pe_listVals rfl (by rfl) T.list (kFld (K := K) (pv 0) rfl)) pa_nil)) (pa_cons (pv 1) (pa_cons (pv 2) (pa_cons (pe_callTy (kTupOf (K := K)) (by rfl) T.tuple (by decide +kernel) (pa_cons (pe_listVals rfl (by rfl) T.list (kFld (K := K) (pv 0) rfl)) pa_nil)) pa_nil))))))))))), ?_⟩
  have a : At O H [some (stD S W m s), none, none, none] none (L2.start N_S_told vs) H := At.begin_ (N := N_S_told) hm
  have wm := wf.wm
  have lo : s.ops.length ≤ 12 := by
    have := congrArg List.length wf.ok
    rw [List.length_map, List.length_map] at this
    rw [this]
    exact Nat.le_trans (List.length_filter_le ..) wm.tl
  have lv : s.worn.length ≤ 12 := by
    have := congrArg List.length wf.wok
    rw [List.length_map, List.length_map] at this
    rw [this]
    exact wm.tl
  have b1 : (blsD s.ops).length < 100000 := by unfold blsD; rw [List.length_map]; omega
  have b2 : (blsD s.worn).length < 100000 := by unfold blsD; rw [List.length_map]; omega
  have lkB : ∀ {l : List (Str × Bool)} {x : Str}, x ∈ (blsD l).map (·.1) → valD (blsD l) x = some (.bl ((look l x).getD false)) := fun {l x} hx => by
    rw [bls_keys] at hx
    obtain ⟨b, e⟩ := look_some hx
    rw [val_bl e, e]
    rfl
  refine s_seq (s_asg (d := .tup (((s.ops.map (·.1)).filter (opn s)).map .str)) hd (EvD.up ((ev_cb (ea_cons (EvN.toD (en_lcK (opn s) D.str (ep_fld T.clS (nS_of T (by decide +kernel)) (ep_var rfl) s_lids) b1 (fun x hx => et_B (ev_dget (ev_sf T (ev_var rfl) s_lids) (ev_var rfl) (lkB hx))) (fun x _ _ => ev_var rfl))) ea_nil) cd_tupL).is ?_)) (by decide) (fun σ H1 a => ?_) a)
  · rw [bls_keys]
  refine s_seq (s_asg (d := .tup (((s.worn.map (·.1)).filter (wornF s)).map .str)) hd (EvD.up ((ev_cb (ea_cons (EvN.toD (en_lcK (wornF s) D.str (ep_fld T.clS (nS_of T (by decide +kernel)) (ep_var rfl) s_dressed) b2 (fun x hx => et_B (ev_dget (ev_sf T (ev_var rfl) s_dressed) (ev_var rfl) (lkB hx))) (fun x _ _ => ev_var rfl))) ea_nil) cd_tupL).is ?_)) (by decide) (fun σ H1 a => ?_) a)
  · rw [bls_keys]
  refine s_ret (d := toldS s) hd (EvD.up (ev_tup (ea_cons (ev_sf T (ev_var rfl) s_spot) (ea_cons (ev_sf T (ev_var rfl) s_moment) (ea_cons ((ev_cb (ea_cons (EvN.toD (en_listVals (ev_sf T (ev_var rfl) s_wheres))) ea_nil) cd_tupL).is ?_) (ea_cons (ev_var rfl) (ea_cons (ev_var rfl) (ea_cons ((ev_cb (ea_cons (EvN.toD (en_listVals (ev_sf T (ev_var rfl) s_counts))) ea_nil) cd_tupL).is ?_) ea_nil)))))) (by show 6 ≤ 100000; decide))) k a
  · unfold whsD
    rw [List.map_map]
    rfl
  · unfold numsD
    rw [List.map_map]
    rfl
end Wt

namespace Wt
open PySem PySem.Spec PyProof.Rows L2
abbrev N_law_look : List Str := ["_law_model_here", "_law_own_here", "_law_marked_here", "_law_place", "_law_seen_here", "_law_rows", "_law_ways", "_law_lying", "_law_named", "_law_holder", "_law_link", "_law_word_here", "_law_held", "_law_thing"]
theorem sc_law_look : FnScope N_law_look ["_law_model_here", "_law_own_here", "_law_marked_here"] (defScope s_law_look) := ⟨rfl, rfl, rfl, by decide +kernel, rfl, by decide +kernel, by decide +kernel⟩
theorem d_law_look {P : Program} {w : World} {K : PySem.W.Frag} {mg : Str → Option Value} {base : Heap} {S W : Addr} {f : Addr} {fd : FuncData} (F : FunW K "_law_look" "_law_look" s_law_look f fd) (T : Txt K mg S W)
    (c1 : CalF P w K mg base "_law_lit" 2 ["_law_model_here", "_law_own_here", "_law_marked_here", "_law_place"] (SpD F_llit))
    (c2 : CalF P w K mg base "_law_seen" 3 ["_law_model_here", "_law_own_here", "_law_marked_here"] (SpN F_lseen))
    (c3 : CalF P w K mg base "_law_ways_row" 1 ["_law_model_here", "_law_own_here"] (SpN F_lways))
    (c4 : CalF P w K mg base "_law_doors" 1 ["_law_model_here", "_law_place"] (SpN F_ldoors))
    (c5 : CalF P w K mg base "_law_joined" 1 ["_law_texts", "_law_word_here"] (SpD F_ljoin))
    (c6 : CalF P w K mg base "_law_a" 2 ["_law_model_here", "_law_thing"] (SpD F_la))
    (c7 : CalF P w K mg base "_law_words" 1 ["_law_model_here", "_law_thing"] (SpD F_lwords)) : FnOk P w K mg base CX0 4 f fd ["_law_model_here", "_law_own_here", "_law_marked_here"] (SpD F_llook) := by
  obtain ⟨_, _, G1, M1, K1, B1⟩ := c1.ex
  obtain ⟨_, _, G2, M2, K2, B2⟩ := c2.ex
  obtain ⟨_, _, G3, M3, K3, B3⟩ := c3.ex
  obtain ⟨_, _, G4, M4, K4, B4⟩ := c4.ex
  obtain ⟨_, _, G5, M5, K5, B5⟩ := c5.ex
  obtain ⟨_, _, G6, M6, K6, B6⟩ := c6.ex
  obtain ⟨_, _, G7, M7, K7, B7⟩ := c7.ex
  refine F.ok sc_law_look (SpD.len (by rintro ds d ⟨m, s, mk, wf, mo, rfl, rfl⟩; rfl)) (fun cdv A outer s0 H vs Q E hr h => ?_)
  have hu := hu_of hr
  obtain ⟨O, ds, d, hd, hm, ⟨m, s, mk, wf, mo, rfl, rfl⟩, k⟩ := h
  refine ⟨_, PSs.nox (pss_cons (ps_set (i := 3) sc_law_look.nd rfl (Or.inr rfl) (pe_dget hu (pv 1) pe_str (fun _ _ => rfl)))
    (pss_cons (ps_if (pt_not (pt_val (pe_call G1 (hr.mono (by decide)) rfl M1 K1 B1 .nil pass0 (pa_cons (pv 0) (pa_cons (pv 1) (pa_cons (pv 2) (pa_cons (pv 3) pa_nil))))))) (pss_one (ps_ret (pe_tup (pa_cons (pe_lst (pa_cons pe_str pa_nil)) (pa_cons pe_int pa_nil))))) pss_nil)
    (pss_cons (ps_set (i := 4) sc_law_look.nd rfl (Or.inl rfl) (pe_call G2 (hr.mono (by decide)) rfl M2 K2 B2 .nil pass0 (pa_cons (pv 0) (pa_cons (pv 1) (pa_cons (pv 2) pa_nil)))))
    (pss_cons (ps_set (i := 5) sc_law_look.nd rfl (Or.inl rfl) (pe_lst (pa_cons (pe_op op_add_str (pv 3) pe_str) pa_nil)))
    (pss_cons (ps_set (i := 6) sc_law_look.nd rfl (Or.inl rfl) (pe_call G3 (hr.mono (by decide)) rfl M3 K3 B3 .nil pass0 (pa_cons (pv 0) (pa_cons (pv 1) pa_nil))))
    (pss_cons (ps_if (pt_cmpR (kNeD (K := K) hr.units) (pv 6) (pe_lst pa_nil) (by rfl)) (pss_one (ps_expr (pe_bm PySem.F.plainAttrs_list PySem.F.slot_list_append PySem.F.type_list_append mt_append (pv 5) (pa_cons (pe_op op_add_str (pe_op op_add_str pe_str (kJoin (K := K) pe_str (pv 6))) pe_str) pa_nil)))) pss_nil)
    (pss_cons (ps_set (i := 7) sc_law_look.nd rfl (Or.inl rfl) (pe_op op_cat (pe_lc (own := [("_law_thing", 13)]) (g := (gName 13)) rfl sc_law_look.nd (kList (K := K) (pv 4)) (blkOk_by (own := [("_law_thing", 13)]) (N := N_law_look) (sc := defScope s_law_look) (by decide +kernel)) (fun _ _ _ _ _ => (pg_name (i := 13) sc_law_look.nd rfl (Or.inl rfl))) (fun _ _ _ _ _ => (pts_one (pt_cmpR (kEqD (K := K) hr.units) (pe_dget hu (pe_dget hu (pv 1) pe_str (fun _ _ => rfl)) (pv 13) (fun _ _ => rfl)) (pe_tup (pa_cons pe_str (pa_cons (pv 3) pa_nil))) (by rfl)))) (fun _ _ _ _ _ => (pv 13))) (pe_call G4 (hr.mono (by decide)) rfl M4 K4 B4 .nil pass0 (pa_cons (pv 0) (pa_cons (pv 3) pa_nil)))))
    (pss_cons (ps_set (i := 8) sc_law_look.nd rfl (Or.inl rfl) (pe_callB (kLen (K := K)) (by rfl) T.len (by decide +kernel) (pa_cons (pv 7) pa_nil)))
    (pss_cons (ps_if (pt_cmpR (kNeD (K := K) hr.units) (pv 7) (pe_lst pa_nil) (by rfl)) (pss_one (ps_expr (pe_bm PySem.F.plainAttrs_list PySem.F.slot_list_append PySem.F.type_list_append mt_append (pv 5) (pa_cons (pe_op op_add_str (pe_op op_add_str pe_str (pe_call G5 (hr.mono (by decide)) rfl M5 K5 B5 .nil pass0 (pa_cons (pe_lc (own := [("_law_thing", 13)]) (g := (gName 13)) (tt := tYes) rfl sc_law_look.nd (kList (K := K) (pv 7)) (blkOk_by (own := [("_law_thing", 13)]) (N := N_law_look) (sc := defScope s_law_look) (by decide +kernel)) (fun _ _ _ _ _ => (pg_name (i := 13) sc_law_look.nd rfl (Or.inl rfl))) (fun _ _ _ _ _ => pts_nil) (fun _ _ _ _ _ => (pe_call G6 (hr.mono (by decide)) rfl M6 K6 B6 .nil pass0 (pa_cons (pv 0) (pa_cons (pv 13) pa_nil))))) (pa_cons pe_str pa_nil)))) pe_str) pa_nil)))) pss_nil)
    (pss_cons (ps_for PassesOwn.never rfl (kList (K := K) (pv 4)) (pg_name (i := 9) sc_law_look.nd rfl (Or.inr rfl)) (pss_one (ps_for PassesOwn.never rfl (kList (K := K) (pe_lst (pa_cons (pe_tup (pa_cons pe_str (pa_cons pe_str pa_nil))) (pa_cons (pe_tup (pa_cons pe_str (pa_cons pe_str pa_nil))) pa_nil)))) (kTupG (K := K) (by rfl) (pgs_cons (pg_name (i := 10) sc_law_look.nd rfl (Or.inr rfl)) (pgs_cons (pg_name (i := 11) sc_law_look.nd rfl (Or.inl rfl)) pgs_nil))) (pss_cons (ps_setLc (i := 12) (own := [("_law_thing", 13)]) (g := (gName 13)) rfl sc_law_look.nd rfl rfl (sw_true rfl rfl rfl (by decide +kernel)) (kList (K := K) (pv 4)) (blkOk_by (own := [("_law_thing", 13)]) (N := N_law_look) (sc := defScope s_law_look) (by decide +kernel)) (fun _ _ _ _ _ => (pg_name (i := 13) sc_law_look.nd rfl (Or.inl rfl))) (fun _ _ _ _ _ => (pts_one (pt_cmpR (kEqD (K := K) hr.units) (pe_dget hu (pe_dget hu (pv 1) pe_str (fun _ _ => rfl)) (pv 13) (fun _ _ => rfl)) (pe_tup (pa_cons (pv 10) (pa_cons (pv 9) pa_nil))) (by rfl)))) (fun _ _ _ _ _ => (pe_call G6 (hr.mono (by decide)) rfl M6 K6 B6 .nil pass0 (pa_cons (pv 0) (pa_cons (pv 13) pa_nil)))))
    (pss_cons (ps_set (i := 8) sc_law_look.nd rfl (Or.inl rfl) (pe_op op_add (pv 8) (pe_callB (kLen (K := K)) (by rfl) T.len (by decide +kernel) (pa_cons (pv 12) pa_nil))))
    (pss_one (ps_if (pt_cmpR (kNeD (K := K) hr.units) (pv 12) (pe_lst pa_nil) (by rfl)) (pss_one (ps_expr (pe_bm PySem.F.plainAttrs_list PySem.F.slot_list_append PySem.F.type_list_append mt_append (pv 5) (pa_cons (pe_op op_add_str (pe_op op_add_str (pe_op op_add_str (pe_op op_add_str (pe_op op_add_str (pv 11) pe_str) (pe_call G7 (hr.mono (by decide)) rfl M7 K7 B7 .nil pass0 (pa_cons (pv 0) (pa_cons (pv 9) pa_nil)))) pe_str) (pe_call G5 (hr.mono (by decide)) rfl M5 K5 B5 .nil pass0 (pa_cons (pv 12) (pa_cons pe_str pa_nil)))) pe_str) pa_nil)))) pss_nil)))))))
    (pss_one (ps_ret (pe_tup (pa_cons (pv 5) (pa_cons (pv 8) pa_nil))))))))))))))), ?_⟩
  have a : At O H [some m.d, some s.d, some (.dic (mksD mk)), none, none, none, none, none, none, none, none, none, none, none] none (L2.start N_law_look vs) H := At.begin_ (N := N_law_look) hm
  have wm := wf.wm
  have hp := wf.hk
  refine s_seq (s_asg hd (ev_here (ev_var rfl)).up (by decide) (fun σ H1 a => ?_) a)
  refine (q_when (b := !litF m s s.here) hd (et_not (et_B (ev_call (ea_cons (ev_var rfl) (ea_cons (ev_var rfl) (ea_cons (ev_var rfl) (ea_cons (ev_var rfl) ea_nil)))) ⟨m, s, mk, _, wf, mo, hp, rfl, rfl⟩))).up (fun hb σ H1 a => ?_) (fun hb σ H1 a => ?_) a)
  · have hf : ¬ litF m s s.here = true := by intro z; rw [z] at hb; cases hb
    have e : lookP m s = (["It is dark."] : List Str) := by
      unfold lookP
      rw [if_neg hf]
    have e2 : namedF m s = 0 := by unfold namedF; rw [if_neg hf]
    rw [e, e2] at k
    exact s_ret hd (ev_tup (ea_cons (EvN.toD (en_lst (ea_cons ev_str ea_nil) (by show 1 ≤ 100000; decide))) (ea_cons ev_int ea_nil)) (by show 2 ≤ 100000; decide)).up k a
  have hlit : litF m s s.here = true := by
    cases q : litF m s s.here with
    | true => rfl
    | false => rw [q] at hb; cases hb
  have hseen := seen_len (s := s) wm
  have hpl := (wm.pnameOk hp).2.1
  have e1 : ("." : Str).length = 1 := by decide +kernel
  have e2 : ("Here: " : Str).length = 6 := by decide +kernel
  have e3 : ("and" : Str).length = 3 := by decide +kernel
  have e4 : ("Ways: " : Str).length = 6 := by decide +kernel
  have e5 : (", " : Str).length = 2 := by decide +kernel
  refine s_seq (s_asg hd (EvN.toD (en_call (ea_cons (ev_var rfl) (ea_cons (ev_var rfl) (ea_cons (ev_var rfl) ea_nil))) ⟨m, s, mk, wf, mo, rfl, rfl⟩)).up (by decide) (fun σ H1 a => ?_) a)
  refine s_seq (s_new hd (en_lst (ea_cons (ev_op (ev_var rfl) ev_str (rd_addS (by omega))) ea_nil) (by show 1 ≤ 100000; decide)) (Nat.le_of_ble_eq_true rfl) (fun σ H1 a => ?_) a)
  refine s_seq (s_asg hd (EvN.toD (en_call (ea_cons (ev_var rfl) (ea_cons (ev_var rfl) ea_nil)) ⟨m, s, wf, rfl, rfl⟩)).up (by simp [wslot]) (fun σ H1 a => ?_) a)
  have hsrt := waysL_srt (s := s) wm
  have hwl := ways_len (s := s) wm
  have hwo : ∀ x, x ∈ waysL m s → PyData.strOk x = true := fun x hx => ways_ok wm x ((srt_perm (waysP m s)).mem_iff.mp (by rw [hsrt]; exact hx))
  have hw1 : (waysL m s).length ≤ 14 := by
    rw [← hsrt, (srt_perm (waysP m s)).length_eq]
    exact hwl.1
  have hw2 : ∀ x, x ∈ waysL m s → x.length ≤ 20 := fun x hx => hwl.2 x ((srt_perm (waysP m s)).mem_iff.mp (by rw [hsrt]; exact hx))
  have hwe : waysLineP m s = if waysL m s = [] then [] else [("Ways: " : Str) ++ Txt.join ", " (waysL m s) ++ "."] := by
    unfold waysLineP
    rw [hsrt]
    have : waysP m s = [] ↔ waysL m s = [] := by
      rw [← hsrt]
      exact ⟨fun z => by rw [z]; exact List.perm_nil.mp (srt_perm []), fun z => List.nil_perm.mp (by rw [← z]; exact srt_perm _)⟩
    by_cases q : waysL m s = []
    · rw [if_pos q, if_pos (this.mpr q)]
    · rw [if_neg q, if_neg fun z => q (this.mp z)]
  have hs5 : ((waysL m s).map (·.length)).sum ≤ 280 := Nat.le_trans (sum_le 20 _ hw2) (by omega)
  have hJ : (Txt.join ", " (waysL m s)).length ≤ 1000 := by
    rw [len_join, e5]
    omega
  refine s_seq (s_ifJ (b := !(waysL m s).isEmpty) (ρ' := [some m.d, some s.d, some (.dic (mksD mk)), some (.str s.here), some (.lst ((seenF m s).map .str)), none, none, none, none, none, none, none, none, none]) (wn' := some (5, .L (([s.here ++ "."] ++ waysLineP m s).map .str))) hd (et_test (ev_op (ev_var rfl) (EvN.toD (en_lst ea_nil (Nat.zero_le _))) (rd_neNil hwo))).up (fun hb kk σ H1 a => ?_) (fun hb kk σ H1 a => ?_) (fun σ H1 a => ?_) a)
  · have hne : ¬ waysL m s = [] := fun z => by rw [z] at hb; cases hb
    refine s_app hd (EvD.up (ev_op (ev_op ev_str (ev_join ev_str (ev_var rfl) ?_) (rd_addS ?_)) ev_str (rd_addS ?_))) (by show 1 < 100000; decide) (fun σ H1 a => kk σ H1 ?_) a
    · rw [e5]
      omega
    · omega
    · rw [len_app]
      omega
    · rw [hwe, if_neg hne, List.map_append]
      exact a.weak (.keep (.keep (.keep (.keep (.keep (.keep (.drop (.keep (.keep (.keep (.keep (.keep (.keep (.keep .nil))))))))))))))
  · refine kk σ H1 ?_
    have hne : waysL m s = [] := by
      cases q : waysL m s with
      | nil => rfl
      | cons x r => rw [q] at hb; cases hb
    rw [hwe, if_pos hne, List.append_nil]
    exact a.weak (.keep (.keep (.keep (.keep (.keep (.keep (.drop (.keep (.keep (.keep (.keep (.keep (.keep (.keep .nil))))))))))))))
  refine s_seq (s_asg (d := .lst ((lyingP m s).map .str)) hd (EvD.up ((EvN.toD (en_op (EvN.toD (en_lc D.str (seenF m s) (fun x ρ => ρ.set 13 (some (.str x))) (fun x => decide (whF s x = .at_ s.here)) D.str (ev_var rfl) (Nat.lt_of_le_of_lt hseen (by decide)) (fun _ _ => tg_name) (fun x hx => et_test (ev_op (ev_dget (ev_where (ev_var rfl)) (ev_var rfl) (val_wh (wf.whF (seen_sub hx)))) (ev_at (ev_var rfl)) (rd_eqW (wf.whok (wf.whF (seen_sub hx))) (wm.placeOk hp)))) (fun x hx _ => ev_var rfl))) (EvN.toD (en_call (ea_cons (ev_var rfl) (ea_cons (ev_var rfl) ea_nil)) ⟨m, _, wm, rfl, rfl⟩)) (rn_cat ?_))).is ?_)) (by simp [wslot]) (fun σ H1 a => ?_) a)
  · rw [List.length_map, List.length_map]
    have h1 := List.length_filter_le (fun x => decide (whF s x = .at_ s.here)) (seenF m s)
    have h2 := doors_len wm s.here
    omega
  · unfold lyingP
    rw [List.map_append]
  have hll := lying_len (s := s) wm
  have hsub : ∀ x, x ∈ lyingP m s → x ∈ m.names := fun x hx => lying_sub hx
  have hsh := short_a wm hsub hll
  have hj := joinP_len (w := "and") hsh (by omega)
  refine s_seq (s_asg (d := .int ((lyingP m s).length : Int)) hd (EvD.up ((ev_cb (ea_cons (ev_var rfl) ea_nil) cd_lenL).is (by rw [List.length_map]))) (by simp [wslot]) (fun σ H1 a => ?_) a)
  refine s_seq (s_ifJ (b := !(lyingP m s).isEmpty) (ρ' := [some m.d, some s.d, some (.dic (mksD mk)), some (.str s.here), some (.lst ((seenF m s).map .str)), none, none, none, some (.int ((lyingP m s).length : Int)), none, none, none, none, none]) (wn' := some (5, .L ((([s.here ++ "."] ++ waysLineP m s) ++ (if lyingP m s = [] then [] else [("Here: " : Str) ++ joinP ((lyingP m s).map (aF m)) "and" ++ "."])).map .str))) hd
    (et_test (ev_op (ev_var rfl) (EvN.toD (en_lst ea_nil (Nat.zero_le _))) (rd_neNil (names_ok wm hsub)))).up (fun hb kk σ H1 a => ?_) (fun hb kk σ H1 a => ?_) (fun σ H1 a => ?_) a)
  · have hne : ¬ lyingP m s = [] := fun z => by rw [z] at hb; cases hb
    have hwl1 : (waysLineP m s).length ≤ 1 := by unfold waysLineP; split <;> simp
    refine s_app hd (EvD.up (ev_op (ev_op ev_str (ev_call (ea_cons ((EvN.toD (en_map D.str (lyingP m s) (fun x ρ => ρ.set 13 (some (.str x))) (fun x => .str (aF m x)) (ev_var rfl) (Nat.lt_of_le_of_lt hll (by decide)) (fun _ _ => tg_name) (fun y hy => ev_call (ea_cons (ev_var rfl) (ea_cons (ev_var rfl) ea_nil)) ⟨m, y, wm, hsub y hy, rfl, rfl⟩))).is ?_) (ea_cons ev_str ea_nil)) ⟨(lyingP m s).map (aF m), "and", hsh, by omega, rfl, rfl⟩) (rd_addS ?_)) ev_str (rd_addS ?_))) ?_ (fun σ H1 a => kk σ H1 ?_) a
    · rw [List.map_map]
      rfl
    · omega
    · rw [len_app]
      omega
    · rw [List.length_map, List.length_append]
      show 1 + _ < _
      omega
    · rw [if_neg hne, List.map_append]
      exact a.weak (.keep (.keep (.keep (.keep (.keep (.keep (.keep (.drop (.keep (.keep (.keep (.keep (.keep (.keep .nil))))))))))))))
  · refine kk σ H1 ?_
    have hne : lyingP m s = [] := by
      cases q : lyingP m s with
      | nil => rfl
      | cons x r => rw [q] at hb; cases hb
    rw [if_pos hne, List.append_nil]
    exact a.weak (.keep (.keep (.keep (.keep (.keep (.keep (.keep (.drop (.keep (.keep (.keep (.keep (.keep (.keep .nil))))))))))))))
  generalize hB : ([s.here ++ "."] ++ waysLineP m s) ++ (if lyingP m s = [] then [] else [("Here: " : Str) ++ joinP ((lyingP m s).map (aF m)) "and" ++ "."]) = B at a
  have hBl : B.length ≤ 3 := by
    rw [← hB, List.length_append, List.length_append]
    have h1 : (if lyingP m s = [] then [] else [("Here: " : Str) ++ joinP ((lyingP m s).map (aF m)) "and" ++ "."]).length ≤ 1 := by split <;> simp
    have h2 : (waysLineP m s).length ≤ 1 := by unfold waysLineP; split <;> simp
    show 1 + _ + _ ≤ _
    omega
  have hf : ∀ l : List Str, (l.flatMap fun h => heldLineP m s h (seenF m s)).length ≤ l.length := fun l => by
    induction l with
    | nil => simp
    | cons y r ih =>
      rw [List.flatMap_cons, List.length_append, List.length_cons]
      have : (heldLineP m s y (seenF m s)).length ≤ 1 := by unfold heldLineP; split <;> simp
      omega
  have hss : ∀ x, x ∈ seenF m s → x ∈ m.names := fun x hx => seen_sub hx
  refine s_seq (s_for D.str (seenF m s) hd (ev_var rfl).up (fun i => [some m.d, some s.d, some (.dic (mksD mk)), some (.str s.here), some (.lst ((seenF m s).map .str)), none, none, none, some (.int (((lyingP m s).length + (((seenF m s).take i).map fun h => cntH s h (seenF m s)).sum : Nat) : Int)), none, none, none, none, none]) (fun i => some (5, .L ((B ++ ((seenF m s).take i).flatMap fun h => heldLineP m s h (seenF m s)).map .str))) (fun _ => True) (fun x ρ => ρ.set 9 (some (.str x))) [9] (fun _ _ => tg_name) (fun n i z => by cases z; decide) rfl (by show some (5, OC.L ((B ++ []).map .str)) = _; rw [List.append_nil]) trivial (fun Hb sb db i h hi _ σ H1 a => ?_) (fun _ σ H1 a => ?_) a)
  · have hh := hss h (List.mem_of_getElem? hi)
    have ef : (((seenF m s).take (i + 1)).flatMap fun h => heldLineP m s h (seenF m s)) = (((seenF m s).take i).flatMap fun h => heldLineP m s h (seenF m s)) ++ heldLineP m s h (seenF m s) := by
      rw [List.take_add_one, hi, List.flatMap_append]
      simp
    have es : (((seenF m s).take (i + 1)).map fun h => cntH s h (seenF m s)).sum = (((seenF m s).take i).map fun h => cntH s h (seenF m s)).sum + cntH s h (seenF m s) := by
      rw [List.take_add_one, hi, List.map_append, List.sum_append]
      simp
    have hl : (B ++ ((seenF m s).take i).flatMap fun h => heldLineP m s h (seenF m s)).length ≤ 20 := by
      rw [List.length_append]
      have h1 := hf ((seenF m s).take i)
      have h2 : ((seenF m s).take i).length ≤ (seenF m s).length := by rw [List.length_take]; exact Nat.min_le_right ..
      omega
    rw [ef, es, ← rows_eq wf h hss, ← List.append_assoc, ← Nat.add_assoc]
    generalize (B ++ ((seenF m s).take i).flatMap fun h => heldLineP m s h (seenF m s)) = C at a hl
    generalize (lyingP m s).length + (((seenF m s).take i).map fun h => cntH s h (seenF m s)).sum = N at a
    let wd : Bool → Str := fun b => if b then "In " else "On "
    let lk : Bool → Str := fun b => if b then "in" else "on"
    let sel : Bool → List Str := fun b => (seenF m s).filter fun x => decide (whF s x = linkW (b, h))
    refine s_for (fun b => .tup [.str (lk b), .str (wd b)]) [true, false] db (EvN.toD (en_lst (ea_cons (ev_pair ev_str ev_str) (ea_cons (ev_pair ev_str ev_str) ea_nil)) (by show 2 ≤ 100000; decide))).up (fun i => [some m.d, some s.d, some (.dic (mksD mk)), some (.str s.here), some (.lst ((seenF m s).map .str)), none, none, none, some (.int ((N + (([true, false].take i).map fun b => (sel b).length).sum : Nat) : Int)), some (.str h), none, none, none, none]) (fun i => some (5, .L ((C ++ ([true, false].take i).flatMap fun b => rowL m s h (seenF m s) (linkW (b, h)) (wd b)).map .str))) (fun _ => True) (fun b ρ => (ρ.set 10 (some (.str (lk b)))).set 11 (some (.str (wd b)))) [10, 11] (fun _ _ => tg_tup (tgs_cons tg_name (tgs_cons tg_name tgs_nil)) rfl) (fun n i z => by cases z; decide) rfl (by show some (5, OC.L ((C ++ []).map .str)) = _; rw [List.append_nil]) trivial (fun Hc sc dc j b hj _ σ H1 a => ?_) (fun _ σ H1 a => ⟨trivial, ?_⟩) a
    · have eb : (([true, false].take (j + 1)).flatMap fun b => rowL m s h (seenF m s) (linkW (b, h)) (wd b)) = (([true, false].take j).flatMap fun b => rowL m s h (seenF m s) (linkW (b, h)) (wd b)) ++ rowL m s h (seenF m s) (linkW (b, h)) (wd b) := by
        rw [List.take_add_one, hj, List.flatMap_append]
        simp
      have ec : (([true, false].take (j + 1)).map fun b => (sel b).length).sum = (([true, false].take j).map fun b => (sel b).length).sum + (sel b).length := by
        rw [List.take_add_one, hj, List.map_append, List.sum_append]
        simp
      have hcl : (C ++ ([true, false].take j).flatMap fun b => rowL m s h (seenF m s) (linkW (b, h)) (wd b)).length ≤ 40 := by
        have h2 : ∀ l : List Bool, (l.flatMap fun b => rowL m s h (seenF m s) (linkW (b, h)) (wd b)).length ≤ l.length := fun l => by
          induction l with
          | nil => simp
          | cons y r ih =>
            rw [List.flatMap_cons, List.length_append, List.length_cons]
            have : (rowL m s h (seenF m s) (linkW (y, h)) (wd y)).length ≤ 1 := by unfold rowL; split <;> simp
            omega
        have h3 := h2 ([true, false].take j)
        have h4 : ([true, false].take j).length ≤ 2 := by rw [List.length_take]; exact Nat.min_le_right ..
        rw [List.length_append]
        omega
      rw [eb, ec, ← List.append_assoc, ← Nat.add_assoc]
      generalize (C ++ ([true, false].take j).flatMap fun b => rowL m s h (seenF m s) (linkW (b, h)) (wd b)) = C2 at a hcl
      generalize N + (([true, false].take j).map fun b => (sel b).length).sum = N2 at a
      have ssub : ∀ x, x ∈ sel b → x ∈ m.names := fun x hx => hss x (List.mem_filter.mp hx).1
      have slen : (sel b).length ≤ 12 := Nat.le_trans (List.length_filter_le ..) hseen
      have ssh := short_a wm ssub (Nat.le_trans slen (by decide))
      have hj2 := joinP_len (w := "and") ssh (by omega)
      have okb : (linkW (b, h)).ok = true := by
        cases b
        · exact wm.onOk hh
        · exact wm.inOk hh
      have hwdl : (wd b).length = 3 := by cases b <;> decide +kernel
      have eT : ("the " : Str).length = 4 := by decide +kernel
      have eC : (": " : Str).length = 2 := by decide +kernel
      have hwl3 := (words_len wm hh).2
      have okA : ∀ x, x ∈ (sel b).map (aF m) → PyData.strOk x = true := fun x hx => by
        obtain ⟨y, hy, e⟩ := List.mem_map.mp hx
        rw [← e]
        exact a_ok wm (ssub y hy)
      refine s_seq (s_asg (d := .lst (((sel b).map (aF m)).map .str)) dc (EvD.up ((EvN.toD (en_lc D.str (seenF m s) (fun x ρ => ρ.set 13 (some (.str x))) (fun x => decide (whF s x = linkW (b, h))) (fun x => .str (aF m x)) (ev_var rfl) (Nat.lt_of_le_of_lt hseen (by decide)) (fun _ _ => tg_name) (fun x hx => et_test (ev_op (ev_dget (ev_where (ev_var rfl)) (ev_var rfl) (val_wh (wf.whF (hss x hx)))) ((ev_pair (a := lk b) (b := h) (ev_var rfl) (ev_var rfl)).is (by cases b <;> rfl)) (rd_eqW (wf.whok (wf.whF (hss x hx))) okb))) (fun x hx _ => ev_call (ea_cons (ev_var rfl) (ea_cons (ev_var rfl) ea_nil)) ⟨m, x, wm, hss x hx, rfl, rfl⟩))).is ?_)) (by simp [wslot]) (fun σ H1 a => ?_) a)
      · rw [List.map_map]
        rfl
      refine s_seq (s_asg (d := .int ((N2 + (sel b).length : Nat) : Int)) dc (EvD.up ((ev_op (ev_var rfl) (ev_cb (ea_cons (ev_var rfl) ea_nil) cd_lenL) rd_ii).is (by rw [List.length_map, List.length_map]; rfl))) (by simp [wslot]) (fun σ H1 a => ?_) a)
      refine s_if (b := !((sel b).map (aF m)).isEmpty) dc (et_test (ev_op (ev_var rfl) (EvN.toD (en_lst ea_nil (Nat.zero_le _))) (rd_neNil okA))).up (fun hb σ H1 a => ?_) (fun hb σ H1 a => ⟨trivial, ?_⟩) a
      · have hne : ¬ (seenF m s).filter (fun x => decide (whF s x = linkW (b, h))) = [] := fun z => by
          have z2 : sel b = [] := z
          rw [z2] at hb
          cases hb
        refine s_app dc (EvD.up (ev_op (ev_op (ev_op (ev_op (ev_op (ev_var rfl) ev_str (rd_addS ?_)) (ev_call (ea_cons (ev_var rfl) (ea_cons (ev_var rfl) ea_nil)) ⟨m, h, wm, hh, rfl, rfl⟩) (rd_addS ?_)) ev_str (rd_addS ?_)) (ev_call (ea_cons (ev_var rfl) (ea_cons ev_str ea_nil)) ⟨(sel b).map (aF m), "and", ssh, by omega, rfl, rfl⟩) (rd_addS ?_)) ev_str (rd_addS ?_))) ?_ (fun σ H1 a => ⟨trivial, ?_⟩) a
        · omega
        · rw [len_app]
          omega
        · rw [len_app, len_app]
          omega
        · rw [len_app, len_app, len_app]
          omega
        · rw [len_app, len_app, len_app, len_app]
          omega
        · rw [List.length_map]
          omega
        · have er : rowL m s h (seenF m s) (linkW (b, h)) (wd b) = [wd b ++ "the " ++ wordsF m h ++ ": " ++ joinP ((sel b).map (aF m)) "and" ++ "."] := by
            unfold rowL
            rw [if_neg hne]
          rw [er, List.map_append]
          exact a.weak (.keep (.keep (.keep (.keep (.keep (.keep (.keep (.keep (.keep (.keep (.drop (.drop (.drop (.keep .nil))))))))))))))
      · have hne : (seenF m s).filter (fun x => decide (whF s x = linkW (b, h))) = [] := by
          have q : sel b = [] := by
            cases q : sel b with
            | nil => rfl
            | cons x r => rw [q] at hb; cases hb
          exact q
        have er : rowL m s h (seenF m s) (linkW (b, h)) (wd b) = [] := by
          unfold rowL
          rw [if_pos hne]
        rw [er, List.append_nil]
        exact a.weak (.keep (.keep (.keep (.keep (.keep (.keep (.keep (.keep (.keep (.keep (.drop (.drop (.drop (.keep .nil))))))))))))))
    · have e9 : (([true, false].take [true, false].length).flatMap fun b => rowL m s h (seenF m s) (linkW (b, h)) (wd b)) = rowL m s h (seenF m s) (.in_ h) "In " ++ rowL m s h (seenF m s) (.on_ h) "On " := by
        show rowL m s h (seenF m s) (.in_ h) "In " ++ (rowL m s h (seenF m s) (.on_ h) "On " ++ []) = _
        rw [List.append_nil]
      have e8 : (([true, false].take [true, false].length).map fun b => (sel b).length).sum = cntH s h (seenF m s) := by
        show (sel true).length + ((sel false).length + 0) = _
        rw [Nat.add_zero]
        rfl
      rw [e9, e8] at a
      exact a.weak (.keep (.keep (.keep (.keep (.keep (.keep (.keep (.keep (.keep (.drop (.keep (.keep (.keep (.keep .nil))))))))))))))
  · rw [List.take_of_length_le (Nat.le_refl _)] at a
    have e6 : lookP m s = B ++ (seenF m s).flatMap fun h => heldLineP m s h (seenF m s) := by
      unfold lookP
      rw [if_pos hlit, ← hB]
    have e7 : namedF m s = (lyingP m s).length + ((seenF m s).map fun h => cntH s h (seenF m s)).sum := by
      unfold namedF
      rw [if_pos hlit]
    rw [← e6, ← e7] at a
    have a := a.freeze hd
    exact s_ret hd (ev_tup (ea_cons (ev_var rfl) (ea_cons (ev_var rfl) ea_nil)) (by show 2 ≤ 100000; decide)).up k a
abbrev N_law_listed : List Str := ["_law_model_here", "_law_own_here", "_law_mine", "_law_rows", "_law_word_here", "_law_worn", "_law_some", "_law_thing"]
theorem sc_law_listed : FnScope N_law_listed ["_law_model_here", "_law_own_here"] (defScope s_law_listed) := ⟨rfl, rfl, rfl, by decide +kernel, rfl, by decide +kernel, by decide +kernel⟩
theorem d_law_listed {P : Program} {w : World} {K : PySem.W.Frag} {mg : Str → Option Value} {base : Heap} {S W : Addr} {f : Addr} {fd : FuncData} (F : FunW K "_law_listed" "_law_listed" s_law_listed f fd) (T : Txt K mg S W)
    (c1 : CalF P w K mg base "_law_a" 2 ["_law_model_here", "_law_thing"] (SpD F_la))
    (c2 : CalF P w K mg base "_law_joined" 1 ["_law_texts", "_law_word_here"] (SpD F_ljoin)) : FnOk P w K mg base CX0 3 f fd ["_law_model_here", "_law_own_here"] (SpN F_llisted) := by
  obtain ⟨_, _, G1, M1, K1, B1⟩ := c1.ex
  obtain ⟨_, _, G2, M2, K2, B2⟩ := c2.ex
  refine F.ok sc_law_listed (SpN.len (by rintro ds d ⟨m, s, wf, rfl, rfl⟩; rfl)) (fun cdv A outer s0 H vs Q E hr h => ?_)
  have hu := hu_of hr
  obtain ⟨O, ds, d, hd, hm, ⟨m, s, wf, rfl, rfl⟩, k⟩ := h
  refine ⟨_, PSs.nox (pss_cons (ps_lockO (ps_setLc (i := 2) (own := [("_law_thing", 7)]) (g := (gName 7)) rfl sc_law_listed.nd rfl rfl (sw_true rfl rfl rfl (by decide +kernel)) (pi_keys (pe_dget hu (pv 1) pe_str (fun _ _ => rfl))) (blkOk_by (own := [("_law_thing", 7)]) (N := N_law_listed) (sc := defScope s_law_listed) (by decide +kernel)) (fun _ _ _ _ _ => (pg_name (i := 7) sc_law_listed.nd rfl (Or.inl rfl))) (fun _ _ _ _ _ => (pts_one (pt_cmpR (kEqD (K := K) hr.units) (pe_dget hu (pe_dget hu (pv 1) pe_str (fun _ _ => rfl)) (pv 7) (fun _ _ => rfl)) (pe_tup (pa_cons pe_str pa_nil)) (by rfl)))) (fun _ _ _ _ _ => (pv 7))))
    (pss_cons (ps_set (i := 3) sc_law_listed.nd rfl (Or.inl rfl) (pe_lst pa_nil))
    (pss_cons (ps_for PassesOwn.never rfl (kList (K := K) (pe_lst (pa_cons (pe_tup (pa_cons pe_str (pa_cons pe_bl pa_nil))) (pa_cons (pe_tup (pa_cons pe_str (pa_cons pe_bl pa_nil))) pa_nil)))) (kTupG (K := K) (by rfl) (pgs_cons (pg_name (i := 4) sc_law_listed.nd rfl (Or.inl rfl)) (pgs_cons (pg_name (i := 5) sc_law_listed.nd rfl (Or.inr rfl)) pgs_nil))) (pss_cons (ps_setLc (i := 6) (own := [("_law_thing", 7)]) (g := (gName 7)) rfl sc_law_listed.nd rfl rfl (sw_true rfl rfl rfl (by decide +kernel)) (kList (K := K) (pv 2)) (blkOk_by (own := [("_law_thing", 7)]) (N := N_law_listed) (sc := defScope s_law_listed) (by decide +kernel)) (fun _ _ _ _ _ => (pg_name (i := 7) sc_law_listed.nd rfl (Or.inl rfl))) (fun _ _ _ _ _ => (pts_one (pt_cmpR op_eq (pe_dget hu (pe_dget hu (pv 1) pe_str (fun _ _ => rfl)) (pv 7) (fun _ _ => rfl)) (pv 5) (by rfl)))) (fun _ _ _ _ _ => (pe_call G1 (hr.mono (by decide)) rfl M1 K1 B1 .nil pass0 (pa_cons (pv 0) (pa_cons (pv 7) pa_nil)))))
    (pss_one (ps_if (pt_cmpR (kNeD (K := K) hr.units) (pv 6) (pe_lst pa_nil) (by rfl)) (pss_one (ps_expr (pe_bm PySem.F.plainAttrs_list PySem.F.slot_list_append PySem.F.type_list_append mt_append (pv 3) (pa_cons (pe_op op_add_str (pe_op op_add_str (pe_op op_add_str (pe_op op_add_str pe_str (pv 4)) pe_str) (pe_call G2 (hr.mono (by decide)) rfl M2 K2 B2 .nil pass0 (pa_cons (pv 6) (pa_cons pe_str pa_nil)))) pe_str) pa_nil)))) pss_nil))))
    (pss_one (ps_ret (kOrT (K := K) (pv 3) (pe_one (pe_lst (pa_cons pe_str pa_nil))))))))), ?_⟩
  have a : At O H [some m.d, some s.d, none, none, none, none, none, none] none (L2.start N_law_listed vs) H := At.begin_ (N := N_law_listed) hm
  have wm := wf.wm
  have hml : (mineP m s).length ≤ 12 := Nat.le_trans (List.length_filter_le ..) (by rw [List.length_map]; exact wm.tl)
  have hms : ∀ x, x ∈ mineP m s → x ∈ m.names := fun x hx => (List.mem_filter.mp hx).1
  have lw : s.whs.length ≤ 12 := by
    have := congrArg List.length wf.wk
    rw [List.length_map, List.length_map] at this
    rw [this]
    exact wm.tl
  have b3 : (whsD s.whs).length < 100000 := by unfold whsD; rw [List.length_map]; omega
  have kx : ∀ {x : Str}, x ∈ (whsD s.whs).map (·.1) → x ∈ m.names := fun {x} hx => by
    rw [whs_keys, wf.wk] at hx
    exact hx
  have e0 : ("You " : Str).length = 4 := by decide +kernel
  have e1 : ("hold" : Str).length = 4 := by decide +kernel
  have e2 : ("wear" : Str).length = 4 := by decide +kernel
  have e3 : ("." : Str).length = 1 := by decide +kernel
  have e4 : ("and" : Str).length = 3 := by decide +kernel
  have e5 : (" " : Str).length = 1 := by decide +kernel
  refine s_seq (s_lk (s_asg (d := .lst ((mineP m s).map .str)) hd (EvD.up ((EvN.toD (en_lcK (fun x => decide (whF s x = .with_)) D.str (ep_dget (ep_var rfl) (valD_at (keys := owKeys) 2 rfl (by decide +kernel) rfl)) b3 (fun x hx => et_test (ev_op (ev_dget (ev_where (ev_var rfl)) (ev_var rfl) (val_wh (wf.whF (kx hx)))) ev_with (rd_eqW (wf.whok (wf.whF (kx hx))) rfl))) (fun x _ _ => ev_var rfl))).is ?_)) (by decide) (fun σ H1 a => ?_) a))
  · rw [whs_keys, wf.wk]
    rfl
  refine s_seq (s_new hd (en_lst ea_nil (Nat.zero_le _)) (Nat.le_of_ble_eq_true rfl) (fun σ H1 a => ?_) a)
  let wd : Bool → Str := fun b => if b then "wear" else "hold"
  let some_ : Bool → List Str := fun b => (mineP m s).filter fun x => decide (wornF s x = b)
  let row : Bool → List Str := fun b => if some_ b = [] then [] else [("You " : Str) ++ wd b ++ " " ++ joinP ((some_ b).map (aF m)) "and" ++ "."]
  refine s_seq (s_for (fun b => .tup [.str (wd b), .bl b]) [false, true] hd (EvN.toD (en_lst (ea_cons (ev_tup (ea_cons ev_str (ea_cons ev_bl ea_nil)) (by show 2 ≤ 100000; decide)) (ea_cons (ev_tup (ea_cons ev_str (ea_cons ev_bl ea_nil)) (by show 2 ≤ 100000; decide)) ea_nil)) (by show 2 ≤ 100000; decide))).up (fun _ => [some m.d, some s.d, some (.lst ((mineP m s).map .str)), none, none, none, none, none]) (fun i => some (3, .L ((([false, true].take i).flatMap row).map .str))) (fun _ => True) (fun b ρ => (ρ.set 4 (some (.str (wd b)))).set 5 (some (.bl b))) [4, 5] (fun _ _ => tg_tup (tgs_cons tg_name (tgs_cons tg_name tgs_nil)) rfl) (fun n i z => by cases z; decide) rfl rfl trivial (fun Hb sb db i b hi _ σ H1 a => ?_) (fun _ σ H1 a => ?_) a)
  · have ef : ([false, true].take (i + 1)).flatMap row = ([false, true].take i).flatMap row ++ row b := by
      rw [List.take_add_one, hi, List.flatMap_append]
      simp
    have hcl : (([false, true].take i).flatMap row).length ≤ 2 := by
      have h2 : ∀ l : List Bool, (l.flatMap row).length ≤ l.length := fun l => by
        induction l with
        | nil => simp
        | cons y r ih =>
          rw [List.flatMap_cons, List.length_append, List.length_cons]
          have : (row y).length ≤ 1 := by
            show (if some_ y = [] then [] else [("You " : Str) ++ wd y ++ " " ++ joinP ((some_ y).map (aF m)) "and" ++ "."]).length ≤ 1
            split <;> simp
          omega
      have h3 := h2 ([false, true].take i)
      have h4 : ([false, true].take i).length ≤ 2 := by rw [List.length_take]; exact Nat.min_le_right ..
      omega
    rw [ef]
    generalize ([false, true].take i).flatMap row = C2 at a hcl
    have ssub : ∀ x, x ∈ some_ b → x ∈ m.names := fun x hx => hms x (List.mem_filter.mp hx).1
    have slen : (some_ b).length ≤ 12 := Nat.le_trans (List.length_filter_le ..) hml
    have ssh := short_a wm ssub (Nat.le_trans slen (by decide))
    have hj2 := joinP_len (w := "and") ssh (by omega)
    have hwdl : (wd b).length = 4 := by cases b <;> decide +kernel
    have okA : ∀ x, x ∈ (some_ b).map (aF m) → PyData.strOk x = true := fun x hx => by
      obtain ⟨y, hy, e⟩ := List.mem_map.mp hx
      rw [← e]
      exact a_ok wm (ssub y hy)
    refine s_seq (s_asg (d := .lst (((some_ b).map (aF m)).map .str)) db (EvD.up ((EvN.toD (en_lc D.str (mineP m s) (fun x ρ => ρ.set 7 (some (.str x))) (fun x => decide (wornF s x = b)) (fun x => .str (aF m x)) (ev_var rfl) (Nat.lt_of_le_of_lt hml (by decide)) (fun _ _ => tg_name) (fun x hx => et_test (ev_op (ev_dget (ev_worn (ev_var rfl)) (ev_var rfl) (val_worn wf (hms x hx))) (ev_var rfl) rd_eqB)) (fun x hx _ => ev_call (ea_cons (ev_var rfl) (ea_cons (ev_var rfl) ea_nil)) ⟨m, x, wm, hms x hx, rfl, rfl⟩))).is ?_)) (by simp [wslot]) (fun σ H1 a => ?_) a)
    · rw [List.map_map]
      rfl
    refine s_if (b := !((some_ b).map (aF m)).isEmpty) db (et_test (ev_op (ev_var rfl) (EvN.toD (en_lst ea_nil (Nat.zero_le _))) (rd_neNil okA))).up (fun hb σ H1 a => ?_) (fun hb σ H1 a => ⟨trivial, ?_⟩) a
    · have hne : ¬ some_ b = [] := fun z => by
        rw [z] at hb
        cases hb
      refine s_app db (EvD.up (ev_op (ev_op (ev_op (ev_op ev_str (ev_var rfl) (rd_addS ?_)) ev_str (rd_addS ?_)) (ev_call (ea_cons (ev_var rfl) (ea_cons ev_str ea_nil)) ⟨(some_ b).map (aF m), "and", ssh, by omega, rfl, rfl⟩) (rd_addS ?_)) ev_str (rd_addS ?_))) ?_ (fun σ H1 a => ⟨trivial, ?_⟩) a
      · omega
      · rw [len_app]
        omega
      · rw [len_app, len_app]
        omega
      · rw [len_app, len_app, len_app]
        omega
      · rw [List.length_map]
        omega
      · have er : row b = [("You " : Str) ++ wd b ++ " " ++ joinP ((some_ b).map (aF m)) "and" ++ "."] := if_neg hne
        rw [er, List.map_append]
        exact a.weak (.keep (.keep (.keep (.keep (.drop (.drop (.drop (.keep .nil))))))))
    · have hne : some_ b = [] := by
        cases q : some_ b with
        | nil => rfl
        | cons x r => rw [q] at hb; cases hb
      have er : row b = [] := if_pos hne
      rw [er, List.append_nil]
      exact a.weak (.keep (.keep (.keep (.keep (.drop (.drop (.drop (.keep .nil))))))))
  have e9 : ([false, true].take [false, true].length).flatMap row = row false ++ row true := by
    show row false ++ (row true ++ []) = _
    rw [List.append_nil]
  rw [e9] at a
  have f1 : ((mineP m s).filter fun x => !wornF s x) = some_ false := List.filter_congr fun x _ => by cases wornF s x <;> rfl
  have f2 : ((mineP m s).filter fun x => wornF s x) = some_ true := List.filter_congr fun x _ => by cases wornF s x <;> rfl
  have w1 : ∀ t : Str, ("You hold " : Str) ++ t = ("You " : Str) ++ "hold" ++ " " ++ t := fun t => by
    have : ("You hold " : Str) = ("You " : Str) ++ "hold" ++ " " := by decide +kernel
    rw [this]
  have w2 : ∀ t : Str, ("You wear " : Str) ++ t = ("You " : Str) ++ "wear" ++ " " ++ t := fun t => by
    have : ("You wear " : Str) = ("You " : Str) ++ "wear" ++ " " := by decide +kernel
    rw [this]
  have e : holdP m s = if row false ++ row true = [] then (["You have nothing."] : List Str) else row false ++ row true := by
    unfold holdP
    simp only [f1, f2, w1, w2]
    rfl
  rw [e] at k
  generalize row false ++ row true = C at a k
  refine s_retOr (es := (if C = [] then (["You have nothing."] : List Str) else C).map .str) hd (fun hC => ?_) (fun hC => ?_) k a
  · have h2 : C = [] := by simpa using hC
    rw [if_pos h2]
    exact en_lst (ea_cons ev_str ea_nil) (by show 1 ≤ 100000; decide)
  · have h2 : ¬ C = [] := fun z => hC (by rw [z]; rfl)
    rw [if_neg h2]
end Wt

namespace Wt
open PySem PySem.Spec PyProof.Rows L2
abbrev N_law_same : List Str := ["_law_found", "_law_due", "_law_one", "_law_other"]
theorem sc_law_same : FnScope N_law_same ["_law_found", "_law_due"] (defScope s_law_same) := ⟨rfl, rfl, rfl, by decide +kernel, rfl, by decide +kernel, by decide +kernel⟩
theorem d_law_same {n : Nat} {P : Program} {w : World} {K : PySem.W.Frag} {mg : Str → Option Value} {base : Heap} {S W : Addr} {f : Addr} {fd : FuncData} (F : FunW K "_law_same" "_law_same" s_law_same f fd) (T : Txt K mg S W)
    (c1 : CalF P w K mg base "_law_same" n ["_law_found", "_law_due"] (SpD (F_same n))) : FnOk P w K mg base CX0 (n + 1) f fd ["_law_found", "_law_due"] (SpD (F_same (n + 1))) := by
  obtain ⟨_, _, G1, M1, K1, B1⟩ := c1.ex
  refine F.ok sc_law_same (SpD.len (by rintro ds d ⟨x, hx, rfl, rfl⟩; rfl)) (fun cdv A outer s0 H vs Q E hr h => ?_)
  have hu := hu_of hr
  obtain ⟨O, ds, d, hd, hm, ⟨x, hx, rfl, rfl⟩, k⟩ := h
  refine ⟨_, PSs.nox (pss_cons (ps_if (pt_val (pe_callB (kIsiT (K := K)) (by rfl) T.isinstance (by decide +kernel) (pa_cons (pv 1) (pa_cons (pe_tup (pa_cons (pe_bltn (v := .ty "list") (by rfl) T.list (by decide +kernel) rfl) (pa_cons (pe_bltn (v := .ty "tuple") (by rfl) T.tuple (by decide +kernel) rfl) pa_nil))) pa_nil)))) (pss_cons (ps_if (PW.pt (pw_or (pt_cmpR op_ne (pe_callB (kIsi (K := K)) (by rfl) T.isinstance (by decide +kernel) (pa_cons (pv 0) (pa_cons (pe_bltn (v := .ty "list") (by rfl) T.list (by decide +kernel) rfl) pa_nil))) (pe_callB (kIsi (K := K)) (by rfl) T.isinstance (by decide +kernel) (pa_cons (pv 1) (pa_cons (pe_bltn (v := .ty "list") (by rfl) T.list (by decide +kernel) rfl) pa_nil))) (by rfl)) (pw_or1 (pt_cmpR op_ne (pe_callB (kIsi (K := K)) (by rfl) T.isinstance (by decide +kernel) (pa_cons (pv 0) (pa_cons (pe_bltn (v := .ty "tuple") (by rfl) T.tuple (by decide +kernel) rfl) pa_nil))) (pe_callB (kIsi (K := K)) (by rfl) T.isinstance (by decide +kernel) (pa_cons (pv 1) (pa_cons (pe_bltn (v := .ty "tuple") (by rfl) T.tuple (by decide +kernel) rfl) pa_nil))) (by rfl))))) (pss_one (ps_ret pe_bl)) pss_nil)
    (pss_one (ps_ret (pe_and (pe_cmpR op_eq (pe_callB (kLen (K := K)) (by rfl) T.len (by decide +kernel) (pa_cons (pv 0) pa_nil)) (pe_callB (kLen (K := K)) (by rfl) T.len (by decide +kernel) (pa_cons (pv 1) pa_nil)) (by rfl)) (pe_one (pe_callB (kAll (K := K) rfl) (by rfl) T.all (by decide +kernel) (pa_cons (pe_lc (own := [("_law_one", 2), ("_law_other", 3)]) (g := (gTup K 2 (gCons (gName 2) (gCons (gName 3) gNil)))) (tt := tYes) rfl sc_law_same.nd (kZip (K := K) (by rfl) T.zip (pa_cons (pv 0) (pa_cons (pv 1) pa_nil))) (blkOk_by (own := [("_law_one", 2), ("_law_other", 3)]) (N := N_law_same) (sc := defScope s_law_same) (by decide +kernel)) (fun _ _ _ _ _ => (kTupG (K := K) (by rfl) (pgs_cons (pg_name (i := 2) sc_law_same.nd rfl (Or.inl rfl)) (pgs_cons (pg_name (i := 3) sc_law_same.nd rfl (Or.inl rfl)) pgs_nil)))) (fun _ _ _ _ _ => pts_nil) (fun _ _ _ _ _ => (pe_call G1 hr rfl M1 K1 B1 .nil pass0 (pa_cons (pv 2) (pa_cons (pv 3) pa_nil))))) pa_nil))))))) pss_nil)
    (pss_one (ps_ret (pe_and (pe_cmpR op_eq (pe_callB (kIsi (K := K)) (by rfl) T.isinstance (by decide +kernel) (pa_cons (pv 0) (pa_cons (pe_bltn (v := .ty "bool") (by rfl) T.bool (by decide +kernel) rfl) pa_nil))) (pe_callB (kIsi (K := K)) (by rfl) T.isinstance (by decide +kernel) (pa_cons (pv 1) (pa_cons (pe_bltn (v := .ty "bool") (by rfl) T.bool (by decide +kernel) rfl) pa_nil))) (by rfl)) (pe_one (pe_cmpR op_eq (pv 0) (pv 1) (by rfl))))))), ?_⟩
  have a : At O H [some x, some x, none, none] none (L2.start N_law_same vs) H := At.begin_ (N := N_law_same) hm
  cases x with
  | lst xs =>
    unfold D.dp at hx
    obtain ⟨h1, h2⟩ := Bool.and_eq_true_iff.mp hx
    have h1 := of_decide_eq_true h1
    refine (q_when (b := true) hd (et_B (ev_cb (ea_cons (ev_var rfl) (ea_cons (ev_tup (ea_cons ev_ty (ea_cons ev_ty ea_nil)) (by show 2 ≤ 100000; decide)) ea_nil)) (cd_isiT (r := true) (r1 := true) (r2 := false) rfl (by decide +kernel) (by decide +kernel) rfl))).up (fun _ σ H1 a => ?_) (fun z => nomatch z) a)
    refine (q_when (b := false) hd ((et_or (et_test (ev_op (ev_cb (ea_cons (ev_var rfl) (ea_cons ev_ty ea_nil)) (cd_isi (r := true) rfl (by decide +kernel))) (ev_cb (ea_cons (ev_var rfl) (ea_cons ev_ty ea_nil)) (cd_isi (r := true) rfl (by decide +kernel))) rd_neB)) (fun _ => et_test (ev_op (ev_cb (ea_cons (ev_var rfl) (ea_cons ev_ty ea_nil)) (cd_isi (r := false) rfl (by decide +kernel))) (ev_cb (ea_cons (ev_var rfl) (ea_cons ev_ty ea_nil)) (cd_isi (r := false) rfl (by decide +kernel))) rd_neB))).is (by decide)).up (fun z => nomatch z) (fun _ σ H1 a => ?_) a)
    refine s_ret hd ((ev_andV ((ev_op (ev_cb (ea_cons (ev_var rfl) ea_nil) cd_lenL) (ev_cb (ea_cons (ev_var rfl) ea_nil) cd_lenL) rd_eqI).is (congrArg D.bl (decide_eq_true rfl))) (fun _ => ev_cb (ea_cons ((EvN.toD (en_lcZL (fun _ => .bl true) (ea_cons (ev_var rfl) (ea_cons (ev_var rfl) ea_nil)) (by omega) (fun d hdm => ev_call (ea_cons (ev_var rfl) (ea_cons (ev_var rfl) ea_nil)) ⟨d, dpL_mem h2 d hdm, rfl, rfl⟩))).is ?_) ea_nil) (cd_all (bs := xs.map fun _ => true)))).is ?_).up k a
    · rw [List.map_map]
      rfl
    · have : (xs.map fun _ => true).all id = true := by
        rw [List.all_map]
        exact List.all_eq_true.mpr fun _ _ => rfl
      rw [this]
      rfl
  | tup xs =>
    unfold D.dp at hx
    obtain ⟨h1, h2⟩ := Bool.and_eq_true_iff.mp hx
    have h1 := of_decide_eq_true h1
    refine (q_when (b := true) hd (et_B (ev_cb (ea_cons (ev_var rfl) (ea_cons (ev_tup (ea_cons ev_ty (ea_cons ev_ty ea_nil)) (by show 2 ≤ 100000; decide)) ea_nil)) (cd_isiT (r := true) (r1 := false) (r2 := true) rfl (by decide +kernel) (by decide +kernel) rfl))).up (fun _ σ H1 a => ?_) (fun z => nomatch z) a)
    refine (q_when (b := false) hd ((et_or (et_test (ev_op (ev_cb (ea_cons (ev_var rfl) (ea_cons ev_ty ea_nil)) (cd_isi (r := false) rfl (by decide +kernel))) (ev_cb (ea_cons (ev_var rfl) (ea_cons ev_ty ea_nil)) (cd_isi (r := false) rfl (by decide +kernel))) rd_neB)) (fun _ => et_test (ev_op (ev_cb (ea_cons (ev_var rfl) (ea_cons ev_ty ea_nil)) (cd_isi (r := true) rfl (by decide +kernel))) (ev_cb (ea_cons (ev_var rfl) (ea_cons ev_ty ea_nil)) (cd_isi (r := true) rfl (by decide +kernel))) rd_neB))).is (by decide)).up (fun z => nomatch z) (fun _ σ H1 a => ?_) a)
    refine s_ret hd ((ev_andV ((ev_op (ev_cb (ea_cons (ev_var rfl) ea_nil) cd_lenT) (ev_cb (ea_cons (ev_var rfl) ea_nil) cd_lenT) rd_eqI).is (congrArg D.bl (decide_eq_true rfl))) (fun _ => ev_cb (ea_cons ((EvN.toD (en_lcZT (fun _ => .bl true) (ea_cons (ev_var rfl) (ea_cons (ev_var rfl) ea_nil)) (by omega) (fun d hdm => ev_call (ea_cons (ev_var rfl) (ea_cons (ev_var rfl) ea_nil)) ⟨d, dpL_mem h2 d hdm, rfl, rfl⟩))).is ?_) ea_nil) (cd_all (bs := xs.map fun _ => true)))).is ?_).up k a
    · rw [List.map_map]
      rfl
    · have : (xs.map fun _ => true).all id = true := by
        rw [List.all_map]
        exact List.all_eq_true.mpr fun _ _ => rfl
      rw [this]
      rfl
  | str b =>
    refine (q_when (b := false) hd (et_B (ev_cb (ea_cons (ev_var rfl) (ea_cons (ev_tup (ea_cons ev_ty (ea_cons ev_ty ea_nil)) (by show 2 ≤ 100000; decide)) ea_nil)) (cd_isiT (r := false) (r1 := false) (r2 := false) rfl (by decide +kernel) (by decide +kernel) rfl))).up (fun z => nomatch z) (fun _ σ H1 a => ?_) a)
    exact s_ret hd ((ev_andV (ev_op (ev_cb (ea_cons (ev_var rfl) (ea_cons ev_ty ea_nil)) (cd_isi (r := false) rfl (by decide +kernel))) (ev_cb (ea_cons (ev_var rfl) (ea_cons ev_ty ea_nil)) (cd_isi (r := false) rfl (by decide +kernel))) rd_eqB) (fun _ => ev_op (ev_var rfl) (ev_var rfl) rd_eqS)).is (by simp)).up k a
  | int b =>
    refine (q_when (b := false) hd (et_B (ev_cb (ea_cons (ev_var rfl) (ea_cons (ev_tup (ea_cons ev_ty (ea_cons ev_ty ea_nil)) (by show 2 ≤ 100000; decide)) ea_nil)) (cd_isiT (r := false) (r1 := false) (r2 := false) rfl (by decide +kernel) (by decide +kernel) rfl))).up (fun z => nomatch z) (fun _ σ H1 a => ?_) a)
    exact s_ret hd ((ev_andV (ev_op (ev_cb (ea_cons (ev_var rfl) (ea_cons ev_ty ea_nil)) (cd_isi (r := false) rfl (by decide +kernel))) (ev_cb (ea_cons (ev_var rfl) (ea_cons ev_ty ea_nil)) (cd_isi (r := false) rfl (by decide +kernel))) rd_eqB) (fun _ => ev_op (ev_var rfl) (ev_var rfl) rd_eqI)).is (by simp)).up k a
  | bl b =>
    refine (q_when (b := false) hd (et_B (ev_cb (ea_cons (ev_var rfl) (ea_cons (ev_tup (ea_cons ev_ty (ea_cons ev_ty ea_nil)) (by show 2 ≤ 100000; decide)) ea_nil)) (cd_isiT (r := false) (r1 := false) (r2 := false) rfl (by decide +kernel) (by decide +kernel) rfl))).up (fun z => nomatch z) (fun _ σ H1 a => ?_) a)
    exact s_ret hd ((ev_andV (ev_op (ev_cb (ea_cons (ev_var rfl) (ea_cons ev_ty ea_nil)) (cd_isi (r := true) rfl (by decide +kernel))) (ev_cb (ea_cons (ev_var rfl) (ea_cons ev_ty ea_nil)) (cd_isi (r := true) rfl (by decide +kernel))) rd_eqB) (fun _ => ev_op (ev_var rfl) (ev_var rfl) rd_eqB)).is (by simp)).up k a
  | non => cases hx
  | ty n => cases hx
  | dic kvs => cases hx
  | obj C fs => cases hx
end Wt

namespace Wt
open PySem PySem.Spec PyProof.Rows L2
abbrev N_S_move_thing : List Str := ["self", "thing", "where"]
theorem sc_S_move_thing : FnScope N_S_move_thing ["self", "thing", "where"] (defScope s_S_move_thing) := ⟨rfl, rfl, rfl, by decide +kernel, rfl, by decide +kernel, by decide +kernel⟩
theorem d_S_move_thing {P : Program} {w : World} {K : PySem.W.Frag} {mg : Str → Option Value} {base : Heap} {S W : Addr} {f : Addr} {fd : FuncData} (F : FunW K "move_thing" "State.move_thing" s_S_move_thing f fd) (T : Txt K mg S W)
    (c1 : CalM P w K mg base S "need_thing" 1 ["self", "thing"] (SpD (F_need S W)))
    (c2 : CalM P w K mg base S "would_ring" 1 ["self", "thing", "where"] (SpD (F_ring S W)))
    (c3 : CalM P w K mg base S "is_where" 2 ["self", "where"] (SpD (F_iswh S W))) : FnOk P w K mg base CX0 3 f fd ["self", "thing", "where"] (SpMove S W) := by
  obtain ⟨_, _, G1, M1, B1⟩ := c1.ex
  obtain ⟨_, _, G2, M2, B2⟩ := c2.ex
  obtain ⟨_, _, G3, M3, B3⟩ := c3.ex
  refine F.ok sc_S_move_thing (fun vs H Q E h => by obtain ⟨O, A, m, s, x, w, vw, wf, st, mo, mw, rfl, k⟩ := h; rfl) (fun cdv A outer s0 H vs Q E hr h => ?_)
  have hu := hu_of hr

  obtain ⟨O, A, m, s, x, w, vw, wf, st, mo, mw, rfl, k⟩ := h
  have hx := mo.nm
  obtain ⟨t, ht⟩ := thg_some hx
  obtain ⟨c, r, kc, hn⟩ := mo.ch
  have okw : w.ok = true := by
    have q := mo.wh
    cases w with
    | at_ p => exact wf.wm.placeOk q
    | in_ b =>
      obtain ⟨t, ht, _⟩ := q
      exact wf.wm.inOk (thg_in ht)
    | on_ b =>
      obtain ⟨t, ht, _⟩ := q
      exact wf.wm.onOk (thg_in ht)
    | with_ => rfl
    | nowhere => rfl
  refine ⟨_, PSs.nox (pss_cons (ps_expr (pe_meth (pv 0) T.clS M1 G1 (hr.mono (by decide)) B1 .nil pass0 (pa_cons (pv 1) pa_nil)))
    (pss_cons (ps_if (PW.pt (pw_or (pt_cmpR (kIn (K := K)) pe_str (pe_ix (kIxT (K := K)) (pe_dget hu (kFld (K := K) (pv 0) rfl) (pv 1) (fun _ _ => rfl)) pe_int (fun _ _ => rfl)) (by rfl)) (pw_or (pt_not (pt_val (pe_meth (pv 0) T.clS M3 G3 (hr.mono (by decide)) B3 .nil pass0 (pa_cons (pv 2) pa_nil)))) (pw_or1 (pt_val (pe_meth (pv 0) T.clS M2 G2 (hr.mono (by decide)) B2 .nil pass0 (pa_cons (pv 1) (pa_cons (pv 2) pa_nil)))))))) (pss_one ps_never) pss_nil)
    (pss_cons (ps_dput hu (kFld (K := K) (pv 0) rfl) (pv 1) (pv 2) rfl)
    (pss_one (ps_if (pt_cmpR (kNeD (K := K) hr.units) (pv 2) (pe_tup (pa_cons pe_str pa_nil)) (by rfl)) (pss_one (ps_dput hu (kFld (K := K) (pv 0) rfl) (pv 1) pe_bl rfl)) pss_nil))))), ?_⟩
  have rz : Rz mt [some (stD S W m s), some (.str x), some w.d] (L2.start N_S_move_thing [.ref A.st, .str x, vw]) H := (RzL.on st.dm (.on (.str x) (.on mw.toM .nil))).rz
  refine u_seq (u_drop (ev_meth (fs := sfs W m s) (ev_var rfl) (s_no (by decide +kernel)) (ea_cons (ev_var rfl) ea_nil) ⟨m, s, x, wf, rfl, hx, rfl⟩) rz fun H1 s1 rz => ?_)
  refine u_when (b := false) ((et_or (et_test (ev_op ev_str (ev_op (ev_dget (ev_sf T (ev_var rfl) s_rows) (ev_var rfl) (val_row ht)) ev_int (rd_ixT (i := 4) rfl)) rd_inT)) (fun _ => et_or (et_not (et_B (ev_meth (fs := sfs W m s) (ev_var rfl) (s_no (by decide +kernel)) (ea_cons (ev_var rfl) ea_nil) ⟨m, s, w, wf, rfl, mo.wh, rfl⟩))) (fun _ => et_B (ev_meth (fs := sfs W m s) (ev_var rfl) (s_no (by decide +kernel)) (ea_cons (ev_var rfl) (ea_cons (ev_var rfl) ea_nil)) ⟨m, s, x, w, c, r, wf, rfl, kc, hn, rfl⟩)))).is ?_) rz (fun z => nomatch z) fun _ H2 s2 rz => ?_
  · have q := mo.nd
    unfold hasT at q
    rw [ht] at q
    show (decide (("door" : Str) ∈ t.traits) || _) = _
    have q2 : decide (("door" : Str) ∈ t.traits) = false := q
    rw [q2]
    rfl
  have sa := s1.trans s2
  have st2 := st.same sa
  have mw2 := mw.same sa
  obtain ⟨ws, ew, kw⟩ := st2.wh
  have kx : x ∈ s.whs.map (·.1) := by rw [wf.wk]; exact hx
  have kx2 : x ∈ s.worn.map (·.1) := by rw [wf.wok]; exact hx
  have hzl : ws.length < 100000 := by rw [kw.length, whs_len]; have := wf.whl; omega
  refine u_seq (u_putV (v := vw) (key := x) (fun Q q => ⟨_, rfl, q⟩) (ev_var rfl) rz (st_at T st2 rfl (v := .ref A.wh) 6 (by decide +kernel) (fun _ _ _ _ => rfl)) ew hzl fun H3 s3 => ?_)
  have st3 := st2.same s3
  have mw3 := mw2.same s3
  have st4 : St O (upd H3 A.wh (.dK (putK ws (.inr x) vw))) S W A m { s with whs := put s.whs x w } := st3.setWh (by
    have q := (kw.same s3).put x mw3
    rw [putD_wh kx] at q
    exact q)
  have hpw := st.inO A.wh (by simp [Ads.l])
  have mw4 : Dm O (upd H3 A.wh (.dK (putK ws (.inr x) vw))) vw w.d := mw3.updO hpw
  have f1 : Fr (inA A) H (upd H3 A.wh (.dK (putK ws (.inr x) vw))) := (Fr.of (sa.trans s3)).trans (Fr.upd (show A.wh ∈ A.l by simp [Ads.l]))
  generalize upd H3 A.wh (.dK (putK ws (.inr x) vw)) = H4 at st4 mw4 f1
  have rz4 : Rz mt [some (stD S W m { s with whs := put s.whs x w }), some (.str x), some w.d] (L2.start N_S_move_thing [.ref A.st, .str x, vw]) H4 := (RzL.on st4.dm (.on (.str x) (.on mw4.toM .nil))).rz
  have em : moveS s x w = { s with whs := put s.whs x w, worn := if w = .with_ then s.worn else put s.worn x false } := by
    unfold moveS
    rw [wornM wf w hx]
  rw [em] at k
  refine u_if (b := !decide (w = .with_)) (et_test (ev_op (ev_var rfl) ev_with (rd_neW okw rfl))) rz4 (fun hb H5 s5 rz5 => ?_) (fun hb H5 s5 rz5 => ?_)
  · have hw : ¬ w = .with_ := fun z => by rw [decide_eq_true z] at hb; cases hb
    have st5 := st4.same s5
    obtain ⟨wd, ed, kd⟩ := st5.dr
    have hzd : wd.length < 100000 := by rw [kd.length, bls_len]; have := wf.wornl; show s.worn.length < _; omega
    refine u_putV (v := .bl false) (key := x) (fun Q q => q) (ev_var rfl) rz5 (st_at T st5 rfl (v := .ref A.dr) 8 (by decide +kernel) (fun _ _ _ _ => rfl)) ed hzd fun H6 s6 => ?_
    rw [if_neg hw] at k
    refine k _ ((f1.trans (Fr.of (s5.trans s6))).trans (Fr.upd (show A.dr ∈ A.l by simp [Ads.l]))) ((st5.same s6).setDr (l := put s.worn x false) ?_)
    have q := (kd.same s6).put x (.bl false)
    rw [putD_bl kx2] at q
    exact q
  · have hw : w = .with_ := by
      by_cases z : w = .with_
      · exact z
      · rw [decide_eq_false z] at hb; cases hb
    rw [if_pos hw] at k
    exact k _ (f1.trans (Fr.of s5)) (st4.same s5)
abbrev N_S_set_open : List Str := ["self", "thing", "truth"]
theorem sc_S_set_open : FnScope N_S_set_open ["self", "thing", "truth"] (defScope s_S_set_open) := ⟨rfl, rfl, rfl, by decide +kernel, rfl, by decide +kernel, by decide +kernel⟩
theorem d_S_set_open {P : Program} {w : World} {K : PySem.W.Frag} {mg : Str → Option Value} {base : Heap} {S W : Addr} {f : Addr} {fd : FuncData} (F : FunW K "set_open" "State.set_open" s_S_set_open f fd) (T : Txt K mg S W)
    (c1 : CalM P w K mg base S "need_thing" 1 ["self", "thing"] (SpD (F_need S W)))
    (c2 : CalF P w K mg base "is_truth" 1 ["thing"] (SpD F_truth)) : FnOk P w K mg base CX0 2 f fd ["self", "thing", "truth"] (SpOpen S W) := by
  obtain ⟨_, _, G1, M1, B1⟩ := c1.ex
  obtain ⟨_, _, G2, M2, K2, B2⟩ := c2.ex
  refine F.ok sc_S_set_open (fun vs H Q E h => by obtain ⟨O, A, m, s, x, b, wf, st, kx, rfl, k⟩ := h; rfl) (fun cdv A outer s0 H vs Q E hr h => ?_)
  have hu := hu_of hr

  obtain ⟨O, A, m, s, x, b, wf, st, kx, rfl, k⟩ := h
  have hx := ops_in wf kx
  refine ⟨_, PSs.nox (pss_cons (ps_expr (pe_meth (pv 0) T.clS M1 G1 (hr.mono (by decide)) B1 .nil pass0 (pa_cons (pv 1) pa_nil)))
    (pss_cons (ps_if (PW.pt (pw_or (pt_cmp (pc_dnotin hu (pv 1) (kFld (K := K) (pv 0) rfl)) (by rfl)) (pw_or1 (pt_not (pt_val (pe_call G2 (hr.mono (by decide)) rfl M2 K2 B2 .nil pass0 (pa_cons (pv 2) pa_nil))))))) (pss_one ps_never) pss_nil)
    (pss_one (ps_dput hu (kFld (K := K) (pv 0) rfl) (pv 1) (pv 2) rfl)))), ?_⟩
  have rz : Rz mt [some (stD S W m s), some (.str x), some (.bl b)] (L2.start N_S_set_open [.ref A.st, .str x, .bl b]) H := (RzL.on st.dm (.on (.str x) (.on (.bl b) .nil))).rz
  refine u_seq (u_drop (ev_meth (fs := sfs W m s) (ev_var rfl) (s_no (by decide +kernel)) (ea_cons (ev_var rfl) ea_nil) ⟨m, s, x, wf, rfl, hx, rfl⟩) rz fun H1 s1 rz => ?_)
  refine u_when (b := false) ((et_or (et_B (ev_dnotin (ev_var rfl) (ev_sf T (ev_var rfl) s_lids))) (fun _ => et_not (et_B (ev_call (ea_cons (ev_var rfl) ea_nil) ⟨b, rfl, rfl⟩)))).is ?_) rz (fun z => nomatch z) fun _ H2 s2 rz => ?_
  · obtain ⟨v, e⟩ := look_some kx
    rw [val_bl e]
    rfl
  have sa := s1.trans s2
  have st2 := st.same sa
  obtain ⟨ws, ew, kw⟩ := st2.ld
  have hzl : ws.length < 100000 := by rw [kw.length, bls_len]; have := wf.opsl; omega
  refine u_putV (v := .bl b) (key := x) (fun Q q => ⟨_, rfl, q⟩) (ev_var rfl) rz (st_at T st2 rfl (v := .ref A.ld) 7 (by decide +kernel) (fun _ _ _ _ => rfl)) ew hzl fun H3 s3 => ?_
  refine k _ ((Fr.of (sa.trans s3)).trans (Fr.upd (show A.ld ∈ A.l by simp [Ads.l]))) ((st2.same s3).setLd (l := put s.ops x b) ?_)
  have q := (kw.same s3).put x (.bl b)
  rw [putD_bl kx] at q
  exact q
abbrev N_S_set_worn : List Str := ["self", "thing", "truth"]
theorem sc_S_set_worn : FnScope N_S_set_worn ["self", "thing", "truth"] (defScope s_S_set_worn) := ⟨rfl, rfl, rfl, by decide +kernel, rfl, by decide +kernel, by decide +kernel⟩
theorem d_S_set_worn {P : Program} {w : World} {K : PySem.W.Frag} {mg : Str → Option Value} {base : Heap} {S W : Addr} {f : Addr} {fd : FuncData} (F : FunW K "set_worn" "State.set_worn" s_S_set_worn f fd) (T : Txt K mg S W)
    (c1 : CalM P w K mg base S "need_thing" 1 ["self", "thing"] (SpD (F_need S W)))
    (c2 : CalF P w K mg base "is_truth" 1 ["thing"] (SpD F_truth)) : FnOk P w K mg base CX0 2 f fd ["self", "thing", "truth"] (SpWorn S W) := by
  obtain ⟨_, _, G1, M1, B1⟩ := c1.ex
  obtain ⟨_, _, G2, M2, K2, B2⟩ := c2.ex
  refine F.ok sc_S_set_worn (fun vs H Q E h => by obtain ⟨O, A, m, s, x, b, wf, st, hx, hw, hh, rfl, k⟩ := h; rfl) (fun cdv A outer s0 H vs Q E hr h => ?_)
  have hu := hu_of hr

  obtain ⟨O, A, m, s, x, b, wf, st, hx, hw, hh, rfl, k⟩ := h
  obtain ⟨t, ht⟩ := thg_some hx
  have kx : x ∈ s.worn.map (·.1) := by rw [wf.wok]; exact hx
  have ew0 : look s.whs x = some .with_ := by rw [wf.whF hx, hh]
  refine ⟨_, PSs.nox (pss_cons (ps_expr (pe_meth (pv 0) T.clS M1 G1 (hr.mono (by decide)) B1 .nil pass0 (pa_cons (pv 1) pa_nil)))
    (pss_cons (ps_if (PW.pt (pw_or (pt_cmpR (kNotIn (K := K)) pe_str (pe_ix (kIxT (K := K)) (pe_dget hu (kFld (K := K) (pv 0) rfl) (pv 1) (fun _ _ => rfl)) pe_int (fun _ _ => rfl)) (by rfl)) (pw_or (pt_cmpR (kNeD (K := K) hr.units) (pe_dget hu (kFld (K := K) (pv 0) rfl) (pv 1) (fun _ _ => rfl)) (pe_tup (pa_cons pe_str pa_nil)) (by rfl)) (pw_or1 (pt_not (pt_val (pe_call G2 (hr.mono (by decide)) rfl M2 K2 B2 .nil pass0 (pa_cons (pv 2) pa_nil)))))))) (pss_one ps_never) pss_nil)
    (pss_one (ps_dput hu (kFld (K := K) (pv 0) rfl) (pv 1) (pv 2) rfl)))), ?_⟩
  have rz : Rz mt [some (stD S W m s), some (.str x), some (.bl b)] (L2.start N_S_set_worn [.ref A.st, .str x, .bl b]) H := (RzL.on st.dm (.on (.str x) (.on (.bl b) .nil))).rz
  refine u_seq (u_drop (ev_meth (fs := sfs W m s) (ev_var rfl) (s_no (by decide +kernel)) (ea_cons (ev_var rfl) ea_nil) ⟨m, s, x, wf, rfl, hx, rfl⟩) rz fun H1 s1 rz => ?_)
  refine u_when (b := false) ((et_or (et_test (ev_op ev_str (ev_op (ev_dget (ev_sf T (ev_var rfl) s_rows) (ev_var rfl) (val_row ht)) ev_int (rd_ixT (i := 4) rfl)) rd_notInT)) (fun _ => et_or (et_test (ev_op (ev_dget (ev_sf T (ev_var rfl) s_wheres) (ev_var rfl) (val_wh ew0)) ev_with (rd_neW rfl rfl))) (fun _ => et_not (et_B (ev_call (ea_cons (ev_var rfl) ea_nil) ⟨b, rfl, rfl⟩))))).is ?_) rz (fun z => nomatch z) fun _ H2 s2 rz => ?_
  · unfold hasT at hw
    rw [ht] at hw
    have q2 : decide (("wear" : Str) ∈ t.traits) = true := hw
    rw [q2]
    rfl
  have sa := s1.trans s2
  have st2 := st.same sa
  obtain ⟨ws, ew, kw⟩ := st2.dr
  have hzl : ws.length < 100000 := by rw [kw.length, bls_len]; have := wf.wornl; omega
  refine u_putV (v := .bl b) (key := x) (fun Q q => ⟨_, rfl, q⟩) (ev_var rfl) rz (st_at T st2 rfl (v := .ref A.dr) 8 (by decide +kernel) (fun _ _ _ _ => rfl)) ew hzl fun H3 s3 => ?_
  refine k _ ((Fr.of (sa.trans s3)).trans (Fr.upd (show A.dr ∈ A.l by simp [Ads.l]))) ((st2.same s3).setDr (l := put s.worn x b) ?_)
  have q := (kw.same s3).put x (.bl b)
  rw [putD_bl kx] at q
  exact q
abbrev N_S_set_number : List Str := ["self", "name", "number"]
theorem sc_S_set_number : FnScope N_S_set_number ["self", "name", "number"] (defScope s_S_set_number) := ⟨rfl, rfl, rfl, by decide +kernel, rfl, by decide +kernel, by decide +kernel⟩
theorem d_S_set_number {P : Program} {w : World} {K : PySem.W.Frag} {mg : Str → Option Value} {base : Heap} {S W : Addr} {f : Addr} {fd : FuncData} (F : FunW K "set_number" "State.set_number" s_S_set_number f fd) (T : Txt K mg S W)
    (c1 : CalM P w K mg base S "number_of" 1 ["self", "name"] (SpD (F_num S W))) : FnOk P w K mg base CX0 2 f fd ["self", "name", "number"] (SpNum S W) := by
  obtain ⟨_, _, G1, M1, B1⟩ := c1.ex
  obtain ⟨_, hmost⟩ := T.most
  refine F.ok sc_S_set_number (fun vs H Q E h => by obtain ⟨O, A, m, s, x, n, wf, st, kx, h0, h9, rfl, k⟩ := h; rfl) (fun cdv A outer s0 H vs Q E hr h => ?_)
  have hu := hu_of hr

  obtain ⟨O, A, m, s, x, n, wf, st, kx, h0, h9, rfl, k⟩ := h
  obtain ⟨n0, e0⟩ := look_some kx
  refine ⟨_, PSs.nox (pss_cons (ps_expr (pe_meth (pv 0) T.clS M1 G1 (hr.mono (by decide)) B1 .nil pass0 (pa_cons (pv 1) pa_nil)))
    (pss_cons (ps_if (PW.pt (pw_or (pt_not (pt_val (pe_callB (kIsi (K := K)) (by rfl) T.isinstance (by decide +kernel) (pa_cons (pv 2) (pa_cons (pe_bltn (v := .ty "int") (by rfl) T.int (by decide +kernel) rfl) pa_nil))))) (pw_or (pt_val (pe_callB (kIsi (K := K)) (by rfl) T.isinstance (by decide +kernel) (pa_cons (pv 2) (pa_cons (pe_bltn (v := .ty "bool") (by rfl) T.bool (by decide +kernel) rfl) pa_nil)))) (pw_or1 (pt_not (pt_chain op_le op_le pe_int (pv 2) (pe_glob (v := .int 9) rfl hmost ⟨_, rfl⟩))))))) (pss_one ps_never) pss_nil)
    (pss_one (ps_dput hu (kFld (K := K) (pv 0) rfl) (pv 1) (pv 2) rfl)))), ?_⟩
  have rz : Rz mt [some (stD S W m s), some (.str x), some (.int n)] (L2.start N_S_set_number [.ref A.st, .str x, .int n]) H := (RzL.on st.dm (.on (.str x) (.on (.int n) .nil))).rz
  refine u_seq (u_drop (ev_meth (fs := sfs W m s) (ev_var rfl) (s_no (by decide +kernel)) (ea_cons (ev_var rfl) ea_nil) ⟨m, s, x, n0, wf, rfl, e0, rfl⟩) rz fun H1 s1 rz => ?_)
  refine u_when (b := false) ((et_or (et_not (et_B (ev_cb (ea_cons (ev_var rfl) (ea_cons ev_ty ea_nil)) (cd_isi (r := true) rfl (by decide +kernel))))) (fun _ => et_or (et_B (ev_cb (ea_cons (ev_var rfl) (ea_cons ev_ty ea_nil)) (cd_isi (r := false) rfl (by decide +kernel)))) (fun _ => et_not (et_test (ev_chain ev_int (ev_var rfl) ev_int rd_ib rd_ib))))).is ?_) rz (fun z => nomatch z) fun _ H2 s2 rz => ?_
  · rw [decide_eq_true h0, decide_eq_true h9]
    rfl
  have sa := s1.trans s2
  have st2 := st.same sa
  obtain ⟨ws, ew, kw⟩ := st2.ct
  have hzl : ws.length < 100000 := by rw [kw.length, nums_len]; have := wf.numsl; omega
  refine u_putV (v := .int n) (key := x) (fun Q q => ⟨_, rfl, q⟩) (ev_var rfl) rz (st_at T st2 rfl (v := .ref A.ct) 9 (by decide +kernel) (fun _ _ _ _ => rfl)) ew hzl fun H3 s3 => ?_
  refine k _ ((Fr.of (sa.trans s3)).trans (Fr.upd (show A.ct ∈ A.l by simp [Ads.l]))) ((st2.same s3).setCt (l := put s.nums x n) ?_)
  have q := (kw.same s3).put x (.int n)
  rw [putD_num kx] at q
  exact q
abbrev N_S_go_to : List Str := ["self", "place"]
theorem sc_S_go_to : FnScope N_S_go_to ["self", "place"] (defScope s_S_go_to) := ⟨rfl, rfl, rfl, by decide +kernel, rfl, by decide +kernel, by decide +kernel⟩
theorem d_S_go_to {P : Program} {w : World} {K : PySem.W.Frag} {mg : Str → Option Value} {base : Heap} {S W : Addr} {f : Addr} {fd : FuncData} (F : FunW K "go_to" "State.go_to" s_S_go_to f fd) (T : Txt K mg S W) : FnOk P w K mg base CX0 1 f fd ["self", "place"] (SpGo S W) := by
  refine F.ok sc_S_go_to (fun vs H Q E h => by obtain ⟨O, A, m, s, p, wf, st, hp, rfl, k⟩ := h; rfl) (fun cdv A outer s0 H vs Q E hr h => ?_)
  have hu := hu_of hr

  obtain ⟨O, A, m, s, p, wf, st, hp, rfl, k⟩ := h
  obtain ⟨b0, e0⟩ := look_some hp
  refine ⟨_, PSs.nox (pss_cons (ps_if (PW.pt (pw_or (pt_not (pt_val (pe_callB (kIsi (K := K)) (by rfl) T.isinstance (by decide +kernel) (pa_cons (pv 1) (pa_cons (pe_bltn (v := .ty "str") (by rfl) T.str (by decide +kernel) rfl) pa_nil))))) (pw_or1 (pt_cmp (pc_dnotin hu (pv 1) (kFld (K := K) (pv 0) rfl)) (by rfl))))) (pss_one ps_never) pss_nil)
    (pss_one (ps_fld (pv 0) (pv 1) rfl))), ?_⟩
  have rz : Rz mt [some (stD S W m s), some (.str p)] (L2.start N_S_go_to [.ref A.st, .str p]) H := (RzL.on st.dm (.on (.str p) .nil)).rz
  refine u_when (b := false) ((et_or (et_not (et_B (ev_cb (ea_cons (ev_var rfl) (ea_cons ev_ty ea_nil)) (cd_isi (r := true) rfl (by decide +kernel))))) (fun _ => et_B (ev_dnotin (ev_var rfl) (ev_sf T (ev_var rfl) s_rooms)))).is ?_) rz (fun z => nomatch z) fun _ H2 s2 rz => ?_
  · rw [val_bl e0]
    rfl
  have st2 := st.same s2
  obtain ⟨dx, vT, vR, vO, vY, e, _⟩ := st2.ob
  refine ⟨_, rfl, _, rfl, A.st, S, dx, _, rfl, e, T.clS, nS_of T (by decide +kernel), (by show 10 < 1000; decide), ?_⟩
  have ep : putF "spot" (.str p) (stF A s vT vR vO vY) = stF A (goS s p) vT vR vO vY := by
    rw [putF_set (keys := sKeys) 4 rfl (by decide +kernel) (by decide)]
    rfl
  rw [ep]
  exact k _ ((Fr.of s2).trans (Fr.upd (show A.st ∈ A.l by simp [Ads.l]))) (st2.setOb (s2 := goS s p) rfl rfl rfl rfl e)
abbrev N_S_next_turn : List Str := ["self"]
theorem sc_S_next_turn : FnScope N_S_next_turn ["self"] (defScope s_S_next_turn) := ⟨rfl, rfl, rfl, by decide +kernel, rfl, by decide +kernel, by decide +kernel⟩
theorem d_S_next_turn {P : Program} {w : World} {K : PySem.W.Frag} {mg : Str → Option Value} {base : Heap} {S W : Addr} {f : Addr} {fd : FuncData} (F : FunW K "next_turn" "State.next_turn" s_S_next_turn f fd) (T : Txt K mg S W) : FnOk P w K mg base CX0 1 f fd ["self"] (SpTurn S W) := by
  refine F.ok sc_S_next_turn (fun vs H Q E h => by obtain ⟨O, A, m, s, wf, st, rfl, k⟩ := h; rfl) (fun cdv A outer s0 H vs Q E hr h => ?_)
  have hu := hu_of hr

  obtain ⟨O, A, m, s, wf, st, rfl, k⟩ := h
  refine ⟨_, PSs.nox (pss_one (ps_fldaug (pv 0) pe_int in_add)), ?_⟩
  obtain ⟨dx, vT, vR, vO, vY, e, _⟩ := st.ob
  refine ⟨_, rfl, A.st, S, dx, _, .int s.turn, rfl, e, T.clS, nS_of T (by decide +kernel), lookupV (keys := sKeys) 5 rfl (by decide +kernel) rfl, s.turn, 1, rfl, rfl, dx, _, e, (by show 10 < 1000; decide), ?_⟩
  have ep : putF "moment" (.int (s.turn + 1)) (stF A s vT vR vO vY) = stF A (turnS s) vT vR vO vY := by
    rw [putF_set (keys := sKeys) 5 rfl (by decide +kernel) (by decide)]
    rfl
  rw [ep]
  exact k _ (Fr.upd (show A.st ∈ A.l by simp [Ads.l])) (st.setOb (s2 := turnS s) rfl rfl rfl rfl e)
end Wt

namespace Wt
open PySem PySem.Spec PyProof.Rows L2
abbrev N_W_init : List Str := ["self", "places", "things", "ways", "states", "rules", "everies", "scenes", "ends"]
theorem sc_W_init : FnScope N_W_init ["self", "places", "things", "ways", "states", "rules", "everies", "scenes", "ends"] (defScope s_W_init) := ⟨rfl, rfl, rfl, by decide +kernel, rfl, by decide +kernel, by decide +kernel⟩
theorem d_W_init {P : Program} {w : World} {K : PySem.W.Frag} {mg : Str → Option Value} {base : Heap} {S W : Addr} {f : Addr} {fd : FuncData} (F : FunW K "__init__" "World.__init__" s_W_init f fd) (T : Txt K mg S W) : FnOk P w K mg base CX0 1 f fd ["self", "places", "things", "ways", "states", "rules", "everies", "scenes", "ends"] (SpWInit W) := by
  refine F.ok sc_W_init (fun vs H Q E h => by obtain ⟨p, dx, m, us, hm, hp, rfl, k⟩ := h; exact congrArg (· + 1) hm.length) (fun cdv A outer s0 H vs Q E hr h => ?_)
  have hu := hu_of hr

  obtain ⟨p, dx, m, us, hm, hp, rfl, k⟩ := h
  refine ⟨_, PSs.nox (pss_cons (ps_fld (pv 0) (pe_callTy (kListOf (K := K)) (by rfl) T.list (by decide +kernel) (pa_cons (pv 1) pa_nil)) rfl)
    (pss_cons (ps_fld (pv 0) (pe_callTy (kListOf (K := K)) (by rfl) T.list (by decide +kernel) (pa_cons (pv 2) pa_nil)) rfl)
    (pss_cons (ps_fld (pv 0) (pe_callTy (kListOf (K := K)) (by rfl) T.list (by decide +kernel) (pa_cons (pv 3) pa_nil)) rfl)
    (pss_cons (ps_fld (pv 0) (pe_callTy (kListOf (K := K)) (by rfl) T.list (by decide +kernel) (pa_cons (pv 4) pa_nil)) rfl)
    (pss_cons (ps_fld (pv 0) (pe_callTy (kListOf (K := K)) (by rfl) T.list (by decide +kernel) (pa_cons (pv 5) pa_nil)) rfl)
    (pss_cons (ps_fld (pv 0) (pe_callTy (kListOf (K := K)) (by rfl) T.list (by decide +kernel) (pa_cons (pv 6) pa_nil)) rfl)
    (pss_cons (ps_fld (pv 0) (pe_callTy (kListOf (K := K)) (by rfl) T.list (by decide +kernel) (pa_cons (pv 7) pa_nil)) rfl)
    (pss_one (ps_fld (pv 0) (pe_callTy (kListOf (K := K)) (by rfl) T.list (by decide +kernel) (pa_cons (pv 8) pa_nil)) rfl))))))))), ?_⟩
  cases hm with | cons m1 hm =>
  cases hm with | cons m2 hm =>
  cases hm with | cons m3 hm =>
  cases hm with | cons m4 hm =>
  cases hm with | cons m5 hm =>
  cases hm with | cons m6 hm =>
  cases hm with | cons m7 hm =>
  cases hm with | cons m8 hm =>
  cases hm
  rename_i v1 v2 v3 v4 v5 v6 v7 v8
  have rz : Rz (only p) [none, some (.lst (m.places.map placeD)), some (.lst (m.things.map Thing.d)), some (.lst (m.ways.map Way.d)), some (.lst (m.states.map strowD)), some (.lst []), some (.lst []), some (.lst []), some (.lst [])] (L2.start N_W_init [.ref p, v1, v2, v3, v4, v5, v6, v7, v8]) H := (RzO.no (.on m1 (.on m2 (.on m3 (.on m4 (.on m5 (.on m6 (.on m7 (.on m8 .nil))))))))).rz
  have dm : Dom (only p) H := fun b hb => by
    rw [show b = p from hb, hp]
    exact fun z => nomatch z
  have kf : DmF (only p) H [] [] := .nil
  dsimp only
  refine u_seq (u_setF (K := K) (d := .lst (m.places.map placeD)) (f := "told_places") (keys := ([] : List Str)) (EvN.toD (en_cb (ea_cons (ev_var rfl) ea_nil) cn_listL)) rz dm rfl rfl hp kf T.clW (nW_of T (by decide +kernel)) rfl (by decide +kernel) (by decide) fun w0 H0 _ f0 hp kf _ rz dm => ?_)
  dsimp only
  refine u_seq (u_setF (K := K) (d := .lst (m.things.map Thing.d)) (f := "told_things") (keys := (["told_places"] : List Str)) (EvN.toD (en_cb (ea_cons (ev_var rfl) ea_nil) cn_listL)) rz dm rfl rfl hp kf T.clW (nW_of T (by decide +kernel)) rfl (by decide +kernel) (by decide) fun w1 H1 _ f1 hp kf _ rz dm => ?_)
  dsimp only
  refine u_seq (u_setF (K := K) (d := .lst (m.ways.map Way.d)) (f := "told_ways") (keys := (["told_places", "told_things"] : List Str)) (EvN.toD (en_cb (ea_cons (ev_var rfl) ea_nil) cn_listL)) rz dm rfl rfl hp kf T.clW (nW_of T (by decide +kernel)) rfl (by decide +kernel) (by decide) fun w2 H2 _ f2 hp kf _ rz dm => ?_)
  dsimp only
  refine u_seq (u_setF (K := K) (d := .lst (m.states.map strowD)) (f := "told_states") (keys := (["told_places", "told_things", "told_ways"] : List Str)) (EvN.toD (en_cb (ea_cons (ev_var rfl) ea_nil) cn_listL)) rz dm rfl rfl hp kf T.clW (nW_of T (by decide +kernel)) rfl (by decide +kernel) (by decide) fun w3 H3 _ f3 hp kf _ rz dm => ?_)
  dsimp only
  refine u_seq (u_setF (K := K) (d := .lst []) (f := "told_rules") (keys := (["told_places", "told_things", "told_ways", "told_states"] : List Str)) (EvN.toD (en_cb (ea_cons (ev_var rfl) ea_nil) cn_listL)) rz dm rfl rfl hp kf T.clW (nW_of T (by decide +kernel)) rfl (by decide +kernel) (by decide) fun w4 H4 _ f4 hp kf _ rz dm => ?_)
  dsimp only
  refine u_seq (u_setF (K := K) (d := .lst []) (f := "told_everies") (keys := (["told_places", "told_things", "told_ways", "told_states", "told_rules"] : List Str)) (EvN.toD (en_cb (ea_cons (ev_var rfl) ea_nil) cn_listL)) rz dm rfl rfl hp kf T.clW (nW_of T (by decide +kernel)) rfl (by decide +kernel) (by decide) fun w5 H5 _ f5 hp kf _ rz dm => ?_)
  dsimp only
  refine u_seq (u_setF (K := K) (d := .lst []) (f := "told_scenes") (keys := (["told_places", "told_things", "told_ways", "told_states", "told_rules", "told_everies"] : List Str)) (EvN.toD (en_cb (ea_cons (ev_var rfl) ea_nil) cn_listL)) rz dm rfl rfl hp kf T.clW (nW_of T (by decide +kernel)) rfl (by decide +kernel) (by decide) fun w6 H6 _ f6 hp kf _ rz dm => ?_)
  dsimp only
  refine u_setF (K := K) (d := .lst []) (f := "told_ends") (keys := (["told_places", "told_things", "told_ways", "told_states", "told_rules", "told_everies", "told_scenes"] : List Str)) (EvN.toD (en_cb (ea_cons (ev_var rfl) ea_nil) cn_listL)) rz dm rfl rfl hp kf T.clW (nW_of T (by decide +kernel)) rfl (by decide +kernel) (by decide) fun w7 H7 _ f7 hp kf _ rz dm => ?_
  exact k _ ((((((((f0).trans f1).trans f2).trans f3).trans f4).trans f5).trans f6).trans f7) (.obj (fun z => z) hp (kf.kpM (.same (Same.refl _)) fun _ z => z.elim))
abbrev N_S_init : List Str := ["self", "world", "told", "lidded", "row"]
theorem sc_S_init : FnScope N_S_init ["self", "world"] (defScope s_S_init) := ⟨rfl, rfl, rfl, by decide +kernel, rfl, by decide +kernel, by decide +kernel⟩
theorem d_S_init {P : Program} {w : World} {K : PySem.W.Frag} {mg : Str → Option Value} {base : Heap} {S W : Addr} {f : Addr} {fd : FuncData} (F : FunW K "__init__" "State.__init__" s_S_init f fd) (T : Txt K mg S W)
    (c1 : CalM P w K mg base W "told" 1 ["self"] (SpD (F_wtold W))) : FnOk P w K mg base CX0 2 f fd ["self", "world"] (SpSInit S W) := by
  obtain ⟨_, _, G1, M1, B1⟩ := c1.ex
  refine F.ok sc_S_init (fun vs H Q E h => by obtain ⟨p, dx, m, vw, wm, hp, mw, rfl, k⟩ := h; rfl) (fun cdv A outer s0 H vs Q E hr h => ?_)
  have hu := hu_of hr

  obtain ⟨p, dx, m, vw, wm, hp, mw, rfl, k⟩ := h
  refine ⟨_, PSs.nox (pss_cons (ps_set (i := 2) sc_S_init.nd rfl (Or.inl rfl) (pe_meth0 (pv 1) T.clW M1 G1 (hr.mono (by decide)) B1 .nil pass0))
    (pss_cons (ps_fld (pv 0) (pv 1) rfl)
    (pss_cons (ps_fld (pv 0) (pe_callTy (kDict (K := K) rfl) (by rfl) T.dict (by decide +kernel) (pa_cons (pe_lc (own := [("row", 4)]) (g := (gName 4)) (tt := tYes) rfl sc_S_init.nd (kList (K := K) (pe_ix (kIxT (K := K)) (pv 2) pe_int (fun _ _ => rfl))) (blkOk_by (own := [("row", 4)]) (N := N_S_init) (sc := defScope s_S_init) (by decide +kernel)) (fun _ _ _ _ _ => (pg_name (i := 4) sc_S_init.nd rfl (Or.inl rfl))) (fun _ _ _ _ _ => pts_nil) (fun _ _ _ _ _ => (pe_tup (pa_cons (pe_ix (kIxT (K := K)) (pv 4) pe_int (fun _ _ => rfl)) (pa_cons (pv 4) pa_nil))))) pa_nil)) rfl)
    (pss_cons (ps_fld (pv 0) (pe_callTy (kDict (K := K) rfl) (by rfl) T.dict (by decide +kernel) (pa_cons (pe_ix (kIxT (K := K)) (pv 2) pe_int (fun _ _ => rfl)) pa_nil)) rfl)
    (pss_cons (ps_fld (pv 0) (pe_ix (kIxT (K := K)) (pv 2) pe_int (fun _ _ => rfl)) rfl)
    (pss_cons (ps_fld (pv 0) (pe_ix (kIxT (K := K)) (pe_ix (kIxL (K := K)) (pe_ix (kIxT (K := K)) (pv 2) pe_int (fun _ _ => rfl)) pe_int (fun _ _ => rfl)) pe_int (fun _ _ => rfl)) rfl)
    (pss_cons (ps_fld (pv 0) pe_int rfl)
    (pss_cons (ps_fld (pv 0) (pe_callTy (kDict (K := K) rfl) (by rfl) T.dict (by decide +kernel) (pa_cons (pe_lc (own := [("row", 4)]) (g := (gName 4)) (tt := tYes) rfl sc_S_init.nd (kList (K := K) (pe_ix (kIxT (K := K)) (pv 2) pe_int (fun _ _ => rfl))) (blkOk_by (own := [("row", 4)]) (N := N_S_init) (sc := defScope s_S_init) (by decide +kernel)) (fun _ _ _ _ _ => (pg_name (i := 4) sc_S_init.nd rfl (Or.inl rfl))) (fun _ _ _ _ _ => pts_nil) (fun _ _ _ _ _ => (pe_tup (pa_cons (pe_ix (kIxT (K := K)) (pv 4) pe_int (fun _ _ => rfl)) (pa_cons (pe_ix (kIxT (K := K)) (pv 4) pe_int (fun _ _ => rfl)) pa_nil))))) pa_nil)) rfl)
    (pss_cons (ps_setLc (i := 3) (own := [("row", 4)]) (g := (gName 4)) rfl sc_S_init.nd rfl rfl (sw_true rfl rfl rfl (by decide +kernel)) (kList (K := K) (pe_ix (kIxT (K := K)) (pv 2) pe_int (fun _ _ => rfl))) (blkOk_by (own := [("row", 4)]) (N := N_S_init) (sc := defScope s_S_init) (by decide +kernel)) (fun _ _ _ _ _ => (pg_name (i := 4) sc_S_init.nd rfl (Or.inl rfl))) (fun _ _ _ _ _ => (pts_one (PW.pt (pw_or (pt_cmpR (kIn (K := K)) pe_str (pe_ix (kIxT (K := K)) (pv 4) pe_int (fun _ _ => rfl)) (by rfl)) (pw_or1 (pt_cmpR (kIn (K := K)) pe_str (pe_ix (kIxT (K := K)) (pv 4) pe_int (fun _ _ => rfl)) (by rfl))))))) (fun _ _ _ _ _ => (pv 4)))
    (pss_cons (ps_fld (pv 0) (pe_callTy (kDict (K := K) rfl) (by rfl) T.dict (by decide +kernel) (pa_cons (pe_lc (own := [("row", 4)]) (g := (gName 4)) (tt := tYes) rfl sc_S_init.nd (kList (K := K) (pv 3)) (blkOk_by (own := [("row", 4)]) (N := N_S_init) (sc := defScope s_S_init) (by decide +kernel)) (fun _ _ _ _ _ => (pg_name (i := 4) sc_S_init.nd rfl (Or.inl rfl))) (fun _ _ _ _ _ => pts_nil) (fun _ _ _ _ _ => (pe_tup (pa_cons (pe_ix (kIxT (K := K)) (pv 4) pe_int (fun _ _ => rfl)) (pa_cons (pe_cmpR (kNotIn (K := K)) pe_str (pe_ix (kIxT (K := K)) (pv 4) pe_int (fun _ _ => rfl)) (by rfl)) pa_nil))))) pa_nil)) rfl)
    (pss_cons (ps_fld (pv 0) (pe_callTy (kDict (K := K) rfl) (by rfl) T.dict (by decide +kernel) (pa_cons (pe_lc (own := [("row", 4)]) (g := (gName 4)) (tt := tYes) rfl sc_S_init.nd (kList (K := K) (pe_ix (kIxT (K := K)) (pv 2) pe_int (fun _ _ => rfl))) (blkOk_by (own := [("row", 4)]) (N := N_S_init) (sc := defScope s_S_init) (by decide +kernel)) (fun _ _ _ _ _ => (pg_name (i := 4) sc_S_init.nd rfl (Or.inl rfl))) (fun _ _ _ _ _ => pts_nil) (fun _ _ _ _ _ => (pe_tup (pa_cons (pe_ix (kIxT (K := K)) (pv 4) pe_int (fun _ _ => rfl)) (pa_cons pe_bl pa_nil))))) pa_nil)) rfl)
    (pss_one (ps_fld (pv 0) (pe_callTy (kDict (K := K) rfl) (by rfl) T.dict (by decide +kernel) (pa_cons (pe_lc (own := [("row", 4)]) (g := (gName 4)) (tt := tYes) rfl sc_S_init.nd (kList (K := K) (pe_ix (kIxT (K := K)) (pv 2) pe_int (fun _ _ => rfl))) (blkOk_by (own := [("row", 4)]) (N := N_S_init) (sc := defScope s_S_init) (by decide +kernel)) (fun _ _ _ _ _ => (pg_name (i := 4) sc_S_init.nd rfl (Or.inl rfl))) (fun _ _ _ _ _ => pts_nil) (fun _ _ _ _ _ => (pe_tup (pa_cons (pe_ix (kIxT (K := K)) (pv 4) pe_int (fun _ _ => rfl)) (pa_cons (pe_ix (kIxT (K := K)) (pv 4) pe_int (fun _ _ => rfl)) pa_nil))))) pa_nil)) rfl))))))))))))), ?_⟩
  have hb : m.things.length < 100000 := Nat.lt_of_le_of_lt wm.tl (by decide)
  have hb2 : (m.things.filter lidded).length < 100000 := Nat.lt_of_le_of_lt (List.length_filter_le ..) hb
  have hb3 : m.states.length < 100000 := Nat.lt_of_le_of_lt wm.sl (by decide)
  obtain ⟨p0, hp0, hh0, _⟩ := here0 wm
  have rz : Rz (only p) [none, some (woD W m), none, none, none] (L2.start N_S_init [.ref p, vw]) H := (RzO.no (.on mw (.no (.no (.no .nil))))).rz
  have dm : Dom (only p) H := fun b hb => by
    rw [show b = p from hb, hp]
    exact fun z => nomatch z
  have mp : only p p := rfl
  dsimp only
  refine u_seq (u_asgM (d := toldD m) (ev_meth (fs := wfs m) (ev_var rfl) (w_no (by decide +kernel)) ea_nil ⟨m, wm, rfl, rfl⟩) rz dm fun v2 H2 s2 m2 rz dm => ?_)
  have hp := s2 _ _ hp
  have F : Fr (only p) H H2 := Fr.of s2
  have kf : DmF (only p) H2 [] [] := .nil
  dsimp only
  refine u_seq (u_setF (K := K) (d := woD W m) (f := "tale") (keys := ([] : List Str)) (ev_var rfl) rz dm mp rfl hp kf T.clS (nS_of T (by decide +kernel)) rfl (by decide +kernel) (by decide) fun w_tale H_tale kp_tale f_tale hp kf m_tale rz dm => ?_)
  have F := F.trans f_tale
  dsimp only
  refine u_seq (u_setF (K := K) (d := .dic (rowsD m.things)) (f := "rows") (keys := (["tale"] : List Str)) (EvM.toD (em_dict (nd_rows wm) (ea_cons ((EvN.toD (en_map Thing.d m.things (fun t ρ => ρ.set 4 (some t.d)) (fun t => .tup [.str t.name, t.d]) (ev_op (ev_var rfl) ev_int (rd_ixT (i := 1) (d := .lst (m.things.map Thing.d)) rfl)) hb (fun _ _ => tg_name) (fun t _ => ev_tup (ea_cons (ev_op (x := t.d) (ev_var rfl) ev_int (rd_ixT (d := .str t.name) rfl)) (ea_cons (ev_var rfl) ea_nil)) (by show 2 ≤ 100000; decide)))).is (congrArg D.lst (rows_pairs _))) ea_nil))) rz dm mp rfl hp kf T.clS (nS_of T (by decide +kernel)) rfl (by decide +kernel) (by decide) fun w_rows H_rows kp_rows f_rows hp kf m_rows rz dm => ?_)
  have F := F.trans f_rows
  dsimp only
  refine u_seq (u_setF (K := K) (d := .dic (blsD m.places)) (f := "rooms") (keys := (["tale", "rows"] : List Str)) (EvM.toD (em_dict (nd_rooms wm) (ea_cons ((ev_op (ev_var rfl) ev_int (rd_ixT (i := 0) (d := .lst (m.places.map placeD)) rfl)).is (congrArg D.lst (rooms_pairs _))) ea_nil))) rz dm mp rfl hp kf T.clS (nS_of T (by decide +kernel)) rfl (by decide +kernel) (by decide) fun w_rooms H_rooms kp_rooms f_rooms hp kf m_rooms rz dm => ?_)
  have F := F.trans f_rooms
  dsimp only
  refine u_seq (u_setF (K := K) (d := .lst (m.ways.map Way.d)) (f := "ways") (keys := (["tale", "rows", "rooms"] : List Str)) (ev_op (ev_var rfl) ev_int (rd_ixT (i := 2) (d := .lst (m.ways.map Way.d)) rfl)) rz dm mp rfl hp kf T.clS (nS_of T (by decide +kernel)) rfl (by decide +kernel) (by decide) fun w_ways H_ways kp_ways f_ways hp kf m_ways rz dm => ?_)
  have F := F.trans f_ways
  dsimp only
  refine u_seq (u_setF (K := K) (d := .str (initS m).here) (f := "spot") (keys := (["tale", "rows", "rooms", "ways"] : List Str)) (ev_op (ev_op (ev_op (ev_var rfl) ev_int (rd_ixT (i := 0) (d := .lst (m.places.map placeD)) rfl)) ev_int (rd_ixL (d := placeD p0) (atI_nat (j := 0) hp0))) ev_int (rd_ixT (d := .str (initS m).here) (by rw [hh0]; rfl))) rz dm mp rfl hp kf T.clS (nS_of T (by decide +kernel)) rfl (by decide +kernel) (by decide) fun w_spot H_spot kp_spot f_spot hp kf m_spot rz dm => ?_)
  have F := F.trans f_spot
  dsimp only
  refine u_seq (u_setF (K := K) (d := .int 0) (f := "moment") (keys := (["tale", "rows", "rooms", "ways", "spot"] : List Str)) ev_int rz dm mp rfl hp kf T.clS (nS_of T (by decide +kernel)) rfl (by decide +kernel) (by decide) fun w_moment H_moment kp_moment f_moment hp kf m_moment rz dm => ?_)
  have F := F.trans f_moment
  dsimp only
  refine u_seq (u_setM (K := K) (f := "wheres") (keys := (["tale", "rows", "rooms", "ways", "spot", "moment"] : List Str)) (em_dict (nd_whs wm) (ea_cons ((EvN.toD (en_map Thing.d m.things (fun t ρ => ρ.set 4 (some t.d)) (fun t => .tup [.str t.name, t.whr.d]) (ev_op (ev_var rfl) ev_int (rd_ixT (i := 1) (d := .lst (m.things.map Thing.d)) rfl)) hb (fun _ _ => tg_name) (fun t _ => ev_tup (ea_cons (ev_op (x := t.d) (ev_var rfl) ev_int (rd_ixT (d := .str t.name) rfl)) (ea_cons (ev_op (x := t.d) (ev_var rfl) ev_int (rd_ixT (d := t.whr.d) rfl)) ea_nil)) (by show 2 ≤ 100000; decide)))).is (congrArg D.lst (whs_pairs _))) ea_nil)) rz dm mp rfl hp kf T.clS (nS_of T (by decide +kernel)) rfl (by decide +kernel) (by decide) fun q_wheres x_wheres H_wheres n_wheres ne_wheres kp_wheres ho_wheres f_wheres hp e_wheres k_wheres kf rz dm => ?_)
  have fr_wheres := F.free n_wheres ne_wheres
  have F := F.trans f_wheres
  have mp := Or.inl (b := p = q_wheres) mp
  dsimp only
  refine u_seq (u_asgM (d := .lst ((m.things.filter lidded).map Thing.d)) (EvN.toD (en_lc Thing.d m.things (fun t ρ => ρ.set 4 (some t.d)) lidded Thing.d (ev_op (ev_var rfl) ev_int (rd_ixT (i := 1) (d := .lst (m.things.map Thing.d)) rfl)) hb (fun _ _ => tg_name) (fun t _ => et_or (et_test (ev_op ev_str (ev_op (x := t.d) (ev_var rfl) ev_int (rd_ixT (d := .tup (t.traits.map .str)) rfl)) rd_inT)) (fun _ => et_test (ev_op ev_str (ev_op (x := t.d) (ev_var rfl) ev_int (rd_ixT (d := .tup (t.traits.map .str)) rfl)) rd_inT))) (fun t _ _ => ev_var rfl))) rz dm fun v3 H3 s3 m3 rz dm => ?_)
  have hp := s3 _ _ hp
  have F := F.trans (Fr.of s3)
  have kf := kf.kpM (.same s3) (fun _ z => .inl z)
  have e_wheres := s3 _ _ e_wheres
  have k_wheres := k_wheres.same s3
  dsimp only
  refine u_seq (u_setM (K := K) (f := "lids") (keys := (["tale", "rows", "rooms", "ways", "spot", "moment", "wheres"] : List Str)) (em_dict (nd_ops wm) (ea_cons ((EvN.toD (en_map Thing.d (m.things.filter lidded) (fun t ρ => ρ.set 4 (some t.d)) (fun t => .tup [.str t.name, .bl (!decide (("shut" : Str) ∈ t.traits))]) (ev_var rfl) hb2 (fun _ _ => tg_name) (fun t _ => ev_tup (ea_cons (ev_op (x := t.d) (ev_var rfl) ev_int (rd_ixT (d := .str t.name) rfl)) (ea_cons (ev_op ev_str (ev_op (x := t.d) (ev_var rfl) ev_int (rd_ixT (d := .tup (t.traits.map .str)) rfl)) rd_notInT) ea_nil)) (by show 2 ≤ 100000; decide)))).is (congrArg D.lst (bls_pairs (fun t => !decide (("shut" : Str) ∈ t.traits)) _))) ea_nil)) rz dm mp rfl hp kf T.clS (nS_of T (by decide +kernel)) rfl (by decide +kernel) (by decide) fun q_lids x_lids H_lids n_lids ne_lids kp_lids ho_lids f_lids hp e_lids k_lids kf rz dm => ?_)
  have fr_lids := F.free n_lids ne_lids
  have F := F.trans f_lids
  have mp := Or.inl (b := p = q_lids) mp
  have d_lids_wheres : q_lids ≠ q_wheres := fun z => by rw [z, e_wheres] at n_lids; cases n_lids
  have e_wheres := f_lids _ _ ne_wheres e_wheres
  have k_wheres := DmK.kp kp_lids ho_lids k_wheres
  dsimp only
  refine u_seq (u_setM (K := K) (f := "dressed") (keys := (["tale", "rows", "rooms", "ways", "spot", "moment", "wheres", "lids"] : List Str)) (em_dict (nd_worn wm) (ea_cons ((EvN.toD (en_map Thing.d m.things (fun t ρ => ρ.set 4 (some t.d)) (fun t => .tup [.str t.name, .bl false]) (ev_op (ev_var rfl) ev_int (rd_ixT (i := 1) (d := .lst (m.things.map Thing.d)) rfl)) hb (fun _ _ => tg_name) (fun t _ => ev_tup (ea_cons (ev_op (x := t.d) (ev_var rfl) ev_int (rd_ixT (d := .str t.name) rfl)) (ea_cons ev_bl ea_nil)) (by show 2 ≤ 100000; decide)))).is (congrArg D.lst (bls_pairs (fun _ => false) _))) ea_nil)) rz dm mp rfl hp kf T.clS (nS_of T (by decide +kernel)) rfl (by decide +kernel) (by decide) fun q_dressed x_dressed H_dressed n_dressed ne_dressed kp_dressed ho_dressed f_dressed hp e_dressed k_dressed kf rz dm => ?_)
  have fr_dressed := F.free n_dressed ne_dressed
  have F := F.trans f_dressed
  have mp := Or.inl (b := p = q_dressed) mp
  have d_dressed_wheres : q_dressed ≠ q_wheres := fun z => by rw [z, e_wheres] at n_dressed; cases n_dressed
  have e_wheres := f_dressed _ _ ne_wheres e_wheres
  have k_wheres := DmK.kp kp_dressed ho_dressed k_wheres
  have d_dressed_lids : q_dressed ≠ q_lids := fun z => by rw [z, e_lids] at n_dressed; cases n_dressed
  have e_lids := f_dressed _ _ ne_lids e_lids
  have k_lids := DmK.kp kp_dressed ho_dressed k_lids
  dsimp only
  refine u_setM (K := K) (f := "counts") (keys := (["tale", "rows", "rooms", "ways", "spot", "moment", "wheres", "lids", "dressed"] : List Str)) (em_dict (nd_nums wm) (ea_cons ((EvN.toD (en_map strowD m.states (fun t ρ => ρ.set 4 (some (strowD t))) strowD (ev_op (ev_var rfl) ev_int (rd_ixT (i := 3) (d := .lst (m.states.map strowD)) rfl)) hb3 (fun _ _ => tg_name) (fun t _ => ev_tup (ea_cons (ev_op (x := strowD t) (ev_var rfl) ev_int (rd_ixT (d := .str t.1) rfl)) (ea_cons (ev_op (x := strowD t) (ev_var rfl) ev_int (rd_ixT (d := .int t.2) rfl)) ea_nil)) (by show 2 ≤ 100000; decide)))).is (congrArg D.lst (nums_pairs _))) ea_nil)) rz dm mp rfl hp kf T.clS (nS_of T (by decide +kernel)) rfl (by decide +kernel) (by decide) fun q_counts x_counts H_counts n_counts ne_counts kp_counts ho_counts f_counts hp e_counts k_counts kf rz dm => ?_
  have fr_counts := F.free n_counts ne_counts
  have F := F.trans f_counts
  have mp := Or.inl (b := p = q_counts) mp
  have d_counts_wheres : q_counts ≠ q_wheres := fun z => by rw [z, e_wheres] at n_counts; cases n_counts
  have e_wheres := f_counts _ _ ne_wheres e_wheres
  have k_wheres := DmK.kp kp_counts ho_counts k_wheres
  have d_counts_lids : q_counts ≠ q_lids := fun z => by rw [z, e_lids] at n_counts; cases n_counts
  have e_lids := f_counts _ _ ne_lids e_lids
  have k_lids := DmK.kp kp_counts ho_counts k_lids
  have d_counts_dressed : q_counts ≠ q_dressed := fun z => by rw [z, e_dressed] at n_counts; cases n_counts
  have e_dressed := f_counts _ _ ne_dressed e_dressed
  have k_dressed := DmK.kp kp_counts ho_counts k_dressed
  have sub : ∀ b, inA ⟨p, q_wheres, q_lids, q_dressed, q_counts⟩ b → (((((only p).and q_wheres).and q_lids).and q_dressed).and q_counts) b := fun b z => by
    have z2 : b = p ∨ b = q_wheres ∨ b = q_lids ∨ b = q_dressed ∨ b = q_counts := by simpa [inA, Ads.l] using z
    rcases z2 with z | z | z | z | z
    · exact .inl (.inl (.inl (.inl z)))
    · exact .inl (.inl (.inl (.inr z)))
    · exact .inl (.inl (.inr z))
    · exact .inl (.inr z)
    · exact .inr z
  refine k _ ⟨p, q_wheres, q_lids, q_dressed, q_counts⟩ rfl (fun b z => ?_) F ⟨?_, fun b z => z, ?_, ⟨_, e_wheres, k_wheres.sub sub⟩, ⟨_, e_lids, k_lids.sub sub⟩, ⟨_, e_dressed, k_dressed.sub sub⟩, ⟨_, e_counts, k_counts.sub sub⟩⟩
  · have z2 : b = p ∨ b = q_wheres ∨ b = q_lids ∨ b = q_dressed ∨ b = q_counts := by simpa [Ads.l] using z
    rcases z2 with z | z | z | z | z
    · exact .inl z
    · exact .inr (by rw [z]; exact fr_wheres)
    · exact .inr (by rw [z]; exact fr_lids)
    · exact .inr (by rw [z]; exact fr_dressed)
    · exact .inr (by rw [z]; exact fr_counts)
  · unfold Ads.l
    simp only [List.nodup_cons, List.mem_cons, not_or, List.not_mem_nil, not_false_eq_true, and_true, List.nodup_nil]
    exact ⟨⟨Ne.symm ne_wheres, Ne.symm ne_lids, Ne.symm ne_dressed, Ne.symm ne_counts⟩, ⟨Ne.symm d_lids_wheres, Ne.symm d_dressed_wheres, Ne.symm d_counts_wheres⟩, ⟨Ne.symm d_dressed_lids, Ne.symm d_counts_lids⟩, Ne.symm d_counts_dressed⟩
  · cases kf with | cons g1 kf =>
    cases kf with | cons g2 kf =>
    cases kf with | cons g3 kf =>
    cases kf with | cons g4 kf =>
    cases kf with | cons g5 kf =>
    cases kf with | cons g6 kf =>
    cases g5
    cases g6
    exact ⟨dx, _, _, _, _, hp, g1.sub sub, g2.sub sub, g3.sub sub, g4.sub sub⟩
end Wt

namespace Wt
open PySem PySem.Spec PyProof.Rows L2
abbrev N_law_own : List Str := ["_law_model_here", "_law_lids", "_law_row"]
theorem sc_law_own : FnScope N_law_own ["_law_model_here"] (defScope s_law_own) := ⟨rfl, rfl, rfl, by decide +kernel, rfl, by decide +kernel, by decide +kernel⟩
theorem d_law_own {P : Program} {w : World} {K : PySem.W.Frag} {mg : Str → Option Value} {base : Heap} {S W : Addr} {f : Addr} {fd : FuncData} (F : FunW K "_law_own" "_law_own" s_law_own f fd) (T : Txt K mg S W) : FnOk P w K mg base CX0 1 f fd ["_law_model_here"] (SpOwn) := by
  refine F.ok sc_law_own (fun vs H Q E h => by obtain ⟨O, m, vm, wm, dm, mm, rfl, k⟩ := h; rfl) (fun cdv A outer s0 H vs Q E hr h => ?_)
  have hu := hu_of hr

  obtain ⟨O, m, vm, wm, dm, mm, rfl, k⟩ := h
  refine ⟨_, PSs.nox (pss_cons (ps_setLc (i := 1) (own := [("_law_row", 2)]) (g := (gName 2)) rfl sc_law_own.nd rfl rfl (sw_true rfl rfl rfl (by decide +kernel)) (kList (K := K) (pe_dget hu (pv 0) pe_str (fun _ _ => rfl))) (blkOk_by (own := [("_law_row", 2)]) (N := N_law_own) (sc := defScope s_law_own) (by decide +kernel)) (fun _ _ _ _ _ => (pg_name (i := 2) sc_law_own.nd rfl (Or.inl rfl))) (fun _ _ _ _ _ => (pts_one (PW.pt (pw_or (pt_cmpR (kIn (K := K)) pe_str (pe_ix (kIxT (K := K)) (pv 2) pe_int (fun _ _ => rfl)) (by rfl)) (pw_or1 (pt_cmpR (kIn (K := K)) pe_str (pe_ix (kIxT (K := K)) (pv 2) pe_int (fun _ _ => rfl)) (by rfl))))))) (fun _ _ _ _ _ => (pv 2)))
    (pss_one (ps_ret (pe_disp (pps_cons pe_str (pe_ix (kIxT (K := K)) (pe_ix (kIxL (K := K)) (pe_dget hu (pv 0) pe_str (fun _ _ => rfl)) pe_int (fun _ _ => rfl)) pe_int (fun _ _ => rfl)) (pps_cons pe_str pe_int (pps_cons pe_str (pe_callTy (kDict (K := K) rfl) (by rfl) T.dict (by decide +kernel) (pa_cons (pe_lc (own := [("_law_row", 2)]) (g := (gName 2)) (tt := tYes) rfl sc_law_own.nd (kList (K := K) (pe_dget hu (pv 0) pe_str (fun _ _ => rfl))) (blkOk_by (own := [("_law_row", 2)]) (N := N_law_own) (sc := defScope s_law_own) (by decide +kernel)) (fun _ _ _ _ _ => (pg_name (i := 2) sc_law_own.nd rfl (Or.inl rfl))) (fun _ _ _ _ _ => pts_nil) (fun _ _ _ _ _ => (pe_tup (pa_cons (pe_ix (kIxT (K := K)) (pv 2) pe_int (fun _ _ => rfl)) (pa_cons (pe_ix (kIxT (K := K)) (pv 2) pe_int (fun _ _ => rfl)) pa_nil))))) pa_nil)) (pps_cons pe_str (pe_callTy (kDict (K := K) rfl) (by rfl) T.dict (by decide +kernel) (pa_cons (pe_lc (own := [("_law_row", 2)]) (g := (gName 2)) (tt := tYes) rfl sc_law_own.nd (kList (K := K) (pv 1)) (blkOk_by (own := [("_law_row", 2)]) (N := N_law_own) (sc := defScope s_law_own) (by decide +kernel)) (fun _ _ _ _ _ => (pg_name (i := 2) sc_law_own.nd rfl (Or.inl rfl))) (fun _ _ _ _ _ => pts_nil) (fun _ _ _ _ _ => (pe_tup (pa_cons (pe_ix (kIxT (K := K)) (pv 2) pe_int (fun _ _ => rfl)) (pa_cons (pe_cmpR (kNotIn (K := K)) pe_str (pe_ix (kIxT (K := K)) (pv 2) pe_int (fun _ _ => rfl)) (by rfl)) pa_nil))))) pa_nil)) (pps_cons pe_str (pe_callTy (kDict (K := K) rfl) (by rfl) T.dict (by decide +kernel) (pa_cons (pe_lc (own := [("_law_row", 2)]) (g := (gName 2)) (tt := tYes) rfl sc_law_own.nd (kList (K := K) (pe_dget hu (pv 0) pe_str (fun _ _ => rfl))) (blkOk_by (own := [("_law_row", 2)]) (N := N_law_own) (sc := defScope s_law_own) (by decide +kernel)) (fun _ _ _ _ _ => (pg_name (i := 2) sc_law_own.nd rfl (Or.inl rfl))) (fun _ _ _ _ _ => pts_nil) (fun _ _ _ _ _ => (pe_tup (pa_cons (pe_ix (kIxT (K := K)) (pv 2) pe_int (fun _ _ => rfl)) (pa_cons pe_bl pa_nil))))) pa_nil)) (pps_cons pe_str (pe_callTy (kDict (K := K) rfl) (by rfl) T.dict (by decide +kernel) (pa_cons (pe_dget hu (pv 0) pe_str (fun _ _ => rfl)) pa_nil)) pps_nil)))))) (by rfl) (by rfl) (fun z => by cases z) (by decide))))), ?_⟩
  have hb : m.things.length < 100000 := Nat.lt_of_le_of_lt wm.tl (by decide)
  have hb2 : (m.things.filter lidded).length < 100000 := Nat.lt_of_le_of_lt (List.length_filter_le ..) hb
  obtain ⟨p0, hp0, hh0, _⟩ := here0 wm
  have rz : Rz O [some m.d, none, none] (L2.start N_law_own [vm]) H := (RzO.on mm (.no (.no .nil))).rz
  refine u_seq (u_asgM (d := .lst ((m.things.filter lidded).map Thing.d)) (EvN.toD (en_lc Thing.d m.things (fun t ρ => ρ.set 2 (some t.d)) lidded Thing.d (ev_things (ev_var rfl)) hb (fun _ _ => tg_name) (fun t _ => et_or (et_test (ev_op ev_str (ev_op (x := t.d) (ev_var rfl) ev_int (rd_ixT (d := .tup (t.traits.map .str)) rfl)) rd_inT)) (fun _ => et_test (ev_op ev_str (ev_op (x := t.d) (ev_var rfl) ev_int (rd_ixT (d := .tup (t.traits.map .str)) rfl)) rd_inT))) (fun t _ _ => ev_var rfl))) rz dm fun v1 H1 s1 m1 rz dm => ?_)
  dsimp only
  intro p np
  have fp := s1.free np
  have rz := Rz.same (Rz.fresh rz np) (Same.new (o := .dK []) np)
  have sa := s1.trans (Same.new (o := .dK []) np)
  have ep : (upd H1 p (.dK [])) p = some (.dK []) := upd_same
  have dm := (dm.same (Same.new (o := .dK []) np)).and ep
  generalize upd H1 p (.dK []) = Hp at rz sa ep dm
  refine (ev_op (ev_op (ev_places (ev_var rfl)) ev_int (rd_ixL (d := placeD p0) (atI_nat (j := 0) hp0))) ev_int (rd_ixT (d := .str (initS m).here) (by rw [hh0]; rfl))) _ _ _ dm rz _ fun vh H2 s2 m2 => ?_
  cases m2
  have sa := sa.trans s2
  have ep := s2 _ _ ep
  have rz := Rz.same rz s2
  have dm := dm.same s2
  refine (em_dict (nd_whs wm) (ea_cons ((EvN.toD (en_map Thing.d m.things (fun t ρ => ρ.set 2 (some t.d)) (fun t => .tup [.str t.name, t.whr.d]) (ev_things (ev_var rfl)) hb (fun _ _ => tg_name) (fun t _ => ev_tup (ea_cons (ev_op (x := t.d) (ev_var rfl) ev_int (rd_ixT (d := .str t.name) rfl)) (ea_cons (ev_op (x := t.d) (ev_var rfl) ev_int (rd_ixT (d := t.whr.d) rfl)) ea_nil)) (by show 2 ≤ 100000; decide)))).is (congrArg D.lst (whs_pairs _))) ea_nil)) _ _ _ dm rz _ fun q_wheres x_wheres H_wheres n_wheres s_wheres e_wheres k_wheres => ?_
  have fr_wheres := sa.free n_wheres
  have ne_wheres : q_wheres ≠ p := fun z => by rw [z, ep] at n_wheres; cases n_wheres
  have sa := sa.trans s_wheres
  have ep := s_wheres _ _ ep
  have rz := Rz.same (Rz.fresh rz n_wheres) s_wheres
  have dm := (dm.same s_wheres).and e_wheres
  refine (em_dict (nd_ops wm) (ea_cons ((EvN.toD (en_map Thing.d (m.things.filter lidded) (fun t ρ => ρ.set 2 (some t.d)) (fun t => .tup [.str t.name, .bl (!decide (("shut" : Str) ∈ t.traits))]) (ev_var rfl) hb2 (fun _ _ => tg_name) (fun t _ => ev_tup (ea_cons (ev_op (x := t.d) (ev_var rfl) ev_int (rd_ixT (d := .str t.name) rfl)) (ea_cons (ev_op ev_str (ev_op (x := t.d) (ev_var rfl) ev_int (rd_ixT (d := .tup (t.traits.map .str)) rfl)) rd_notInT) ea_nil)) (by show 2 ≤ 100000; decide)))).is (congrArg D.lst (bls_pairs (fun t => !decide (("shut" : Str) ∈ t.traits)) _))) ea_nil)) _ _ _ dm rz _ fun q_lids x_lids H_lids n_lids s_lids e_lids k_lids => ?_
  have fr_lids := sa.free n_lids
  have ne_lids : q_lids ≠ p := fun z => by rw [z, ep] at n_lids; cases n_lids
  have sa := sa.trans s_lids
  have ep := s_lids _ _ ep
  have rz := Rz.same (Rz.fresh rz n_lids) s_lids
  have dm := (dm.same s_lids).and e_lids
  have d_lids_wheres : q_lids ≠ q_wheres := fun z => by rw [z, e_wheres] at n_lids; cases n_lids
  have e_wheres := s_lids _ _ e_wheres
  have k_wheres := (DmK.fresh k_wheres n_lids).same s_lids
  refine (em_dict (nd_worn wm) (ea_cons ((EvN.toD (en_map Thing.d m.things (fun t ρ => ρ.set 2 (some t.d)) (fun t => .tup [.str t.name, .bl false]) (ev_things (ev_var rfl)) hb (fun _ _ => tg_name) (fun t _ => ev_tup (ea_cons (ev_op (x := t.d) (ev_var rfl) ev_int (rd_ixT (d := .str t.name) rfl)) (ea_cons ev_bl ea_nil)) (by show 2 ≤ 100000; decide)))).is (congrArg D.lst (bls_pairs (fun _ => false) _))) ea_nil)) _ _ _ dm rz _ fun q_dressed x_dressed H_dressed n_dressed s_dressed e_dressed k_dressed => ?_
  have fr_dressed := sa.free n_dressed
  have ne_dressed : q_dressed ≠ p := fun z => by rw [z, ep] at n_dressed; cases n_dressed
  have sa := sa.trans s_dressed
  have ep := s_dressed _ _ ep
  have rz := Rz.same (Rz.fresh rz n_dressed) s_dressed
  have dm := (dm.same s_dressed).and e_dressed
  have d_dressed_wheres : q_dressed ≠ q_wheres := fun z => by rw [z, e_wheres] at n_dressed; cases n_dressed
  have e_wheres := s_dressed _ _ e_wheres
  have k_wheres := (DmK.fresh k_wheres n_dressed).same s_dressed
  have d_dressed_lids : q_dressed ≠ q_lids := fun z => by rw [z, e_lids] at n_dressed; cases n_dressed
  have e_lids := s_dressed _ _ e_lids
  have k_lids := (DmK.fresh k_lids n_dressed).same s_dressed
  refine (em_dict (nd_nums wm) (ea_cons ((ev_states (ev_var rfl)).is (congrArg D.lst (nums_pairs _))) ea_nil)) _ _ _ dm rz _ fun q_counts x_counts H_counts n_counts s_counts e_counts k_counts => ?_
  have fr_counts := sa.free n_counts
  have ne_counts : q_counts ≠ p := fun z => by rw [z, ep] at n_counts; cases n_counts
  have sa := sa.trans s_counts
  have ep := s_counts _ _ ep
  have rz := Rz.same (Rz.fresh rz n_counts) s_counts
  have dm := (dm.same s_counts).and e_counts
  have d_counts_wheres : q_counts ≠ q_wheres := fun z => by rw [z, e_wheres] at n_counts; cases n_counts
  have e_wheres := s_counts _ _ e_wheres
  have k_wheres := (DmK.fresh k_wheres n_counts).same s_counts
  have d_counts_lids : q_counts ≠ q_lids := fun z => by rw [z, e_lids] at n_counts; cases n_counts
  have e_lids := s_counts _ _ e_lids
  have k_lids := (DmK.fresh k_lids n_counts).same s_counts
  have d_counts_dressed : q_counts ≠ q_dressed := fun z => by rw [z, e_dressed] at n_counts; cases n_counts
  have e_dressed := s_counts _ _ e_dressed
  have k_dressed := (DmK.fresh k_dressed n_counts).same s_counts
  refine ⟨ep, owF ⟨p, q_wheres, q_lids, q_dressed, q_counts⟩ (initS m), rfl, (by show 6 ≤ 15; decide), ?_⟩
  rw [ow_merge]
  have sub : ∀ b, (O b ∨ b ∈ (⟨p, q_wheres, q_lids, q_dressed, q_counts⟩ : Bds).l) → (((((O.and p).and q_wheres).and q_lids).and q_dressed).and q_counts) b := fun b z => by
    rcases z with z | z
    · exact .inl (.inl (.inl (.inl (.inl z))))
    have z2 : b = p ∨ b = q_wheres ∨ b = q_lids ∨ b = q_dressed ∨ b = q_counts := by simpa [Bds.l] using z
    rcases z2 with z | z | z | z | z
    · exact .inl (.inl (.inl (.inl (.inr z))))
    · exact .inl (.inl (.inl (.inr z)))
    · exact .inl (.inl (.inr z))
    · exact .inl (.inr z)
    · exact .inr z
  have mp : (((((O.and p).and q_wheres).and q_lids).and q_dressed).and q_counts) p := .inl (.inl (.inl (.inl (.inr rfl))))
  refine k _ ⟨p, q_wheres, q_lids, q_dressed, q_counts⟩ (fun b z => ?_) (fun b o e => ?_) ⟨?_, fun b z => .inr z, upd_same, ⟨_, by rw [upd_ne ne_wheres]; exact e_wheres, (k_wheres.updO mp).sub sub⟩, ⟨_, by rw [upd_ne ne_lids]; exact e_lids, (k_lids.updO mp).sub sub⟩, ⟨_, by rw [upd_ne ne_dressed]; exact e_dressed, (k_dressed.updO mp).sub sub⟩, ⟨_, by rw [upd_ne ne_counts]; exact e_counts, (k_counts.updO mp).sub sub⟩⟩
  · have z2 : b = p ∨ b = q_wheres ∨ b = q_lids ∨ b = q_dressed ∨ b = q_counts := by simpa [Bds.l] using z
    rcases z2 with z | z | z | z | z
    · rw [z]; exact fp
    · rw [z]; exact fr_wheres
    · rw [z]; exact fr_lids
    · rw [z]; exact fr_dressed
    · rw [z]; exact fr_counts
  · rw [upd_ne fun z => by rw [z, fp] at e; cases e]
    exact sa _ _ e
  · unfold Bds.l
    simp only [List.nodup_cons, List.mem_cons, not_or, List.not_mem_nil, not_false_eq_true, and_true, List.nodup_nil]
    exact ⟨⟨Ne.symm ne_wheres, Ne.symm ne_lids, Ne.symm ne_dressed, Ne.symm ne_counts⟩, ⟨Ne.symm d_lids_wheres, Ne.symm d_dressed_wheres, Ne.symm d_counts_wheres⟩, ⟨Ne.symm d_dressed_lids, Ne.symm d_counts_lids⟩, Ne.symm d_counts_dressed⟩
end Wt

namespace Wt
open PySem PySem.Spec PyProof.Rows L2
abbrev N_law_drawn : List Str := ["_law_cell", "_law_k", "_law_number"]
theorem sc_law_drawn : FnScope N_law_drawn ["_law_cell", "_law_k"] (defScope s_law_drawn) := ⟨rfl, rfl, rfl, by decide +kernel, rfl, by decide +kernel, by decide +kernel⟩
theorem d_law_drawn {P : Program} {w : World} {K : PySem.W.Frag} {mg : Str → Option Value} {base : Heap} {S W : Addr} {f : Addr} {fd : FuncData} (F : FunW K "_law_drawn" "_law_drawn" s_law_drawn f fd) (T : Txt K mg S W) : FnOk P w K mg base CX0 1 f fd ["_law_cell", "_law_k"] (SpD F_drawn) := by
  refine F.ok sc_law_drawn (SpD.len (by rintro ds d ⟨c, kk, h0, h1, rfl, rfl⟩; rfl)) (fun cdv A outer s0 H vs Q E hr h => ?_)
  have hu := hu_of hr
  obtain ⟨O, ds, d, hd, hm, ⟨c, kk, h0, h1, rfl, rfl⟩, k⟩ := h
  refine ⟨_, PSs.nox (pss_cons (ps_set (i := 2) sc_law_drawn.nd rfl (Or.inl rfl) (pe_op op_add (pe_op op_add (pe_op op_mod (pv 0) pe_int) (pe_op op_mul pe_int (pv 1))) pe_int))
    (pss_one (ps_ret (pe_op op_mod (pe_op op_mul (pe_op op_mod (pe_op op_mul (pv 2) (pv 2)) pe_int) pe_int) pe_int)))), ?_⟩
  have a : At O H [some (.int c), some (.int kk), none] none (L2.start N_law_drawn vs) H := At.begin_ (N := N_law_drawn) hm
  have b0 : 0 ≤ c % 1000000007 := Int.emod_nonneg _ (by decide)
  have b1 : c % 1000000007 < 1000000007 := Int.emod_lt_of_pos _ (by decide)
  have c0 : 0 ≤ (c % 1000000007 + 7919 * kk + 13) * (c % 1000000007 + 7919 * kk + 13) % 1000000007 := Int.emod_nonneg _ (by decide)
  have c1 : (c % 1000000007 + 7919 * kk + 13) * (c % 1000000007 + 7919 * kk + 13) % 1000000007 < 1000000007 := Int.emod_lt_of_pos _ (by decide)
  refine s_seq (s_asg (d := .int (c % 1000000007 + 7919 * kk + 13)) hd (EvD.up (ev_op (ev_op (ev_op (ev_var rfl) ev_int (rd_ic (by decide))) (ev_op ev_int (ev_var rfl) (rd_ic (.inl ⟨by decide, by decide⟩))) rd_ii) ev_int rd_ii)) (by decide) (fun σ H1 a => ?_) a)
  exact s_ret (d := .int (drawnF c kk)) hd (EvD.up (ev_op (ev_op (ev_op (ev_op (ev_var rfl) (ev_var rfl) (rd_ic (.inl ⟨by omega, by omega⟩))) ev_int (rd_ic (by decide))) ev_int (rd_ic (.inl ⟨by omega, by omega⟩))) ev_int (rd_ic (by decide)))) k a
end Wt

namespace Wt
open PySem PySem.Spec PyProof.Rows L2
abbrev N_law_moved : List Str := ["_law_model_here", "_law_own_here", "_law_state", "_law_number", "_law_things", "_law_way", "_law_more", "_law_name", "_law_spots", "_law_where", "_law_row", "_law_some", "_law_place", "_law_one"]
theorem sc_law_moved : FnScope N_law_moved ["_law_model_here", "_law_own_here", "_law_state", "_law_number"] (defScope s_law_moved) := ⟨rfl, rfl, rfl, by decide +kernel, rfl, by decide +kernel, by decide +kernel⟩
theorem d_law_moved {P : Program} {w : World} {K : PySem.W.Frag} {mg : Str → Option Value} {base : Heap} {S W : Addr} {f : Addr} {fd : FuncData} (F : FunW K "_law_moved" "_law_moved" s_law_moved f fd) (T : Txt K mg S W)
    (c1 : CalF P w K mg base "_law_holders" 1 ["_law_model_here"] (SpN F_lholders))
    (c2 : CalF P w K mg base "_law_holds" 1 ["_law_own_here", "_law_holder", "_law_thing"] (SpD F_lholds))
    (c3 : CalM P w K mg base S "move_thing" 3 ["self", "thing", "where"] (SpMove S W))
    (c4 : CalM P w K mg base S "set_open" 2 ["self", "thing", "truth"] (SpOpen S W))
    (c5 : CalM P w K mg base S "set_worn" 2 ["self", "thing", "truth"] (SpWorn S W))
    (c6 : CalM P w K mg base S "set_number" 2 ["self", "name", "number"] (SpNum S W))
    (c7 : CalM P w K mg base S "next_turn" 1 ["self"] (SpTurn S W))
    (c8 : CalM P w K mg base S "go_to" 1 ["self", "place"] (SpGo S W)) : FnOk P w K mg base CX0 4 f fd ["_law_model_here", "_law_own_here", "_law_state", "_law_number"] (SpMoved S W) := by
  obtain ⟨_, _, G1, M1, K1, B1⟩ := c1.ex
  obtain ⟨_, _, G2, M2, K2, B2⟩ := c2.ex
  obtain ⟨_, _, G3, M3, B3⟩ := c3.ex
  obtain ⟨_, _, G4, M4, B4⟩ := c4.ex
  obtain ⟨_, _, G5, M5, B5⟩ := c5.ex
  obtain ⟨_, _, G6, M6, B6⟩ := c6.ex
  obtain ⟨_, _, G7, M7, B7⟩ := c7.ex
  obtain ⟨_, _, G8, M8, B8⟩ := c8.ex
  refine F.ok sc_law_moved (fun vs H Q E h => by obtain ⟨A, B, m, s, n, vm, wf, dj, mm, st, ow, rfl, k⟩ := h; rfl) (fun cdv A outer s0 H vs Q E hr h => ?_)
  have hu := hu_of hr

  obtain ⟨A, B, m, s, n, vm, wf, dj, mm, st, ow, rfl, k⟩ := h
  have wm := wf.wm
  have hb : m.things.length < 100000 := Nat.lt_of_le_of_lt wm.tl (by decide)
  refine ⟨_, PSs.nox (pss_cons (ps_setLc (i := 4) (own := [("_law_row", 10)]) (g := (gName 10)) rfl sc_law_moved.nd rfl rfl (sw_true rfl rfl rfl (by decide +kernel)) (kList (K := K) (pe_dget hu (pv 0) pe_str (fun _ _ => rfl))) (blkOk_by (own := [("_law_row", 10)]) (N := N_law_moved) (sc := defScope s_law_moved) (by decide +kernel)) (fun _ _ _ _ _ => (pg_name (i := 10) sc_law_moved.nd rfl (Or.inl rfl))) (fun _ _ _ _ _ => (pts_one (pt_cmpR (kNotIn (K := K)) pe_str (pe_ix (kIxT (K := K)) (pv 10) pe_int (fun _ _ => rfl)) (by rfl)))) (fun _ _ _ _ _ => (pv 10)))
    (pss_cons (ps_set (i := 5) sc_law_moved.nd rfl (Or.inl rfl) (pe_op op_mod (pv 3) pe_int))
    (pss_cons (ps_set (i := 6) sc_law_moved.nd rfl (Or.inl rfl) (pe_op op_fdiv (pv 3) pe_int))
    (pss_one (ps_if (PW.pt (pw_and (pt_cmpR op_lt (pv 5) pe_int (by rfl)) (pw_and1 (pt_cmpR (kNeD (K := K) hr.units) (pv 4) (pe_lst pa_nil) (by rfl))))) (pss_cons (ps_set (i := 7) sc_law_moved.nd rfl (Or.inr rfl) (pe_ix (kIxT (K := K)) (pe_ix (kIxL (K := K)) (pv 4) (pe_op op_mod (pv 6) (pe_callB (kLen (K := K)) (by rfl) T.len (by decide +kernel) (pa_cons (pv 4) pa_nil))) (fun _ _ => rfl)) pe_int (fun _ _ => rfl)))
    (pss_cons (ps_set (i := 8) sc_law_moved.nd rfl (Or.inl rfl) (pe_op op_cat (pe_lc (own := [("_law_place", 12)]) (g := (gName 12)) (tt := tYes) rfl sc_law_moved.nd (kList (K := K) (pe_dget hu (pv 0) pe_str (fun _ _ => rfl))) (blkOk_by (own := [("_law_place", 12)]) (N := N_law_moved) (sc := defScope s_law_moved) (by decide +kernel)) (fun _ _ _ _ _ => (pg_name (i := 12) sc_law_moved.nd rfl (Or.inl rfl))) (fun _ _ _ _ _ => pts_nil) (fun _ _ _ _ _ => (pe_tup (pa_cons pe_str (pa_cons (pe_ix (kIxT (K := K)) (pv 12) pe_int (fun _ _ => rfl)) pa_nil))))) (pe_lst (pa_cons (pe_tup (pa_cons pe_str pa_nil)) (pa_cons (pe_tup (pa_cons pe_str pa_nil)) (pa_cons (pe_tup (pa_cons pe_str pa_nil)) pa_nil))))))
    (pss_cons (ps_set (i := 8) sc_law_moved.nd rfl (Or.inl rfl) (pe_op op_cat (pv 8) (pe_op op_rep (pe_lc (own := [("_law_one", 13)]) (g := (gName 13)) rfl sc_law_moved.nd (kList (K := K) (pe_call G1 (hr.mono (by decide)) rfl M1 K1 B1 .nil pass0 (pa_cons (pv 0) pa_nil))) (blkOk_by (own := [("_law_one", 13)]) (N := N_law_moved) (sc := defScope s_law_moved) (by decide +kernel)) (fun _ _ _ _ _ => (pg_name (i := 13) sc_law_moved.nd rfl (Or.inl rfl))) (fun _ _ _ _ _ => (pts_one (pt_not (pt_val (pe_call G2 (hr.mono (by decide)) rfl M2 K2 B2 .nil pass0 (pa_cons (pv 1) (pa_cons (pv 7) (pa_cons (pe_ix (kIxT (K := K)) (pv 13) pe_int (fun _ _ => rfl)) pa_nil)))))))) (fun _ _ _ _ _ => (pv 13))) pe_int)))
    (pss_cons (ps_set (i := 9) sc_law_moved.nd rfl (Or.inl rfl) (pe_ix (kIxL (K := K)) (pv 8) (pe_op op_mod (pe_op op_fdiv (pv 6) pe_int) (pe_callB (kLen (K := K)) (by rfl) T.len (by decide +kernel) (pa_cons (pv 8) pa_nil))) (fun _ _ => rfl)))
    (pss_cons (ps_dput hu (pe_dget hu (pv 1) pe_str (fun _ _ => rfl)) (pv 7) (pv 9) rfl)
    (pss_cons (ps_dput hu (pe_dget hu (pv 1) pe_str (fun _ _ => rfl)) (pv 7) (pe_and (pe_dget hu (pe_dget hu (pv 1) pe_str (fun _ _ => rfl)) (pv 7) (fun _ _ => rfl)) (pe_one (pe_cmpR (kEqD (K := K) hr.units) (pv 9) (pe_tup (pa_cons pe_str pa_nil)) (by rfl)))) rfl)
    (pss_one (ps_expr (pe_meth (pv 2) T.clS M3 G3 (hr.mono (by decide)) B3 .nil pass0 (pa_cons (pv 7) (pa_cons (pv 9) pa_nil))))))))))) (pss_one (ps_if (PW.pt (pw_and (pt_cmpR op_lt (pv 5) pe_int (by rfl)) (pw_and1 (pt_cmpR (op_neE hu) (pe_dget hu (pv 1) pe_str (fun _ _ => rfl)) pe_dnewK (by rfl))))) (pss_cons (ps_set (i := 7) sc_law_moved.nd rfl (Or.inr rfl) (pe_ix (kIxL (K := K)) (pe_callTy (call_list_dR rfl) (by rfl) T.list (by decide +kernel) (pa_cons (pe_dget hu (pv 1) pe_str (fun _ _ => rfl)) pa_nil)) (pe_op op_mod (pv 6) (pe_callB call_lenR (by rfl) T.len (by decide +kernel) (pa_cons (pe_dget hu (pv 1) pe_str (fun _ _ => rfl)) pa_nil))) (fun _ _ => rfl)))
    (pss_cons (ps_dput hu (pe_dget hu (pv 1) pe_str (fun _ _ => rfl)) (pv 7) (pe_cmpR op_eq (pe_op op_mod (pe_op op_fdiv (pv 6) pe_int) pe_int) pe_int (by rfl)) rfl)
    (pss_one (ps_expr (pe_meth (pv 2) T.clS M4 G4 (hr.mono (by decide)) B4 .nil pass0 (pa_cons (pv 7) (pa_cons (pe_cmpR op_eq (pe_op op_mod (pe_op op_fdiv (pv 6) pe_int) pe_int) pe_int (by rfl)) pa_nil))))))) (pss_one (ps_if (pt_cmpR op_eq (pv 5) pe_int (by rfl)) (pss_cons (ps_setLc (i := 11) (own := [("_law_row", 10)]) (g := (gName 10)) rfl sc_law_moved.nd rfl rfl (sw_true rfl rfl rfl (by decide +kernel)) (kList (K := K) (pv 4)) (blkOk_by (own := [("_law_row", 10)]) (N := N_law_moved) (sc := defScope s_law_moved) (by decide +kernel)) (fun _ _ _ _ _ => (pg_name (i := 10) sc_law_moved.nd rfl (Or.inl rfl))) (fun _ _ _ _ _ => (pts_one (PW.pt (pw_and (pt_cmpR (kIn (K := K)) pe_str (pe_ix (kIxT (K := K)) (pv 10) pe_int (fun _ _ => rfl)) (by rfl)) (pw_and1 (pt_cmpR (kEqD (K := K) hr.units) (pe_dget hu (pe_dget hu (pv 1) pe_str (fun _ _ => rfl)) (pe_ix (kIxT (K := K)) (pv 10) pe_int (fun _ _ => rfl)) (fun _ _ => rfl)) (pe_tup (pa_cons pe_str pa_nil)) (by rfl))))))) (fun _ _ _ _ _ => (pe_ix (kIxT (K := K)) (pv 10) pe_int (fun _ _ => rfl))))
    (pss_one (ps_if (pt_cmpR (kNeD (K := K) hr.units) (pv 11) (pe_lst pa_nil) (by rfl)) (pss_cons (ps_set (i := 7) sc_law_moved.nd rfl (Or.inr rfl) (pe_ix (kIxL (K := K)) (pv 11) (pe_op op_mod (pv 6) (pe_callB (kLen (K := K)) (by rfl) T.len (by decide +kernel) (pa_cons (pv 11) pa_nil))) (fun _ _ => rfl)))
    (pss_cons (ps_dput hu (pe_dget hu (pv 1) pe_str (fun _ _ => rfl)) (pv 7) (pe_cmpR op_gt (pe_op op_mod (pe_op op_fdiv (pv 6) pe_int) pe_int) pe_int (by rfl)) rfl)
    (pss_one (ps_expr (pe_meth (pv 2) T.clS M5 G5 (hr.mono (by decide)) B5 .nil pass0 (pa_cons (pv 7) (pa_cons (pe_cmpR op_gt (pe_op op_mod (pe_op op_fdiv (pv 6) pe_int) pe_int) pe_int (by rfl)) pa_nil))))))) pss_nil))) (pss_one (ps_if (PW.pt (pw_and (pt_cmpR op_eq (pv 5) pe_int (by rfl)) (pw_and1 (pt_cmpR (op_neE hu) (pe_dget hu (pv 1) pe_str (fun _ _ => rfl)) pe_dnewK (by rfl))))) (pss_cons (ps_set (i := 7) sc_law_moved.nd rfl (Or.inr rfl) (pe_ix (kIxL (K := K)) (pe_callTy (call_list_dR rfl) (by rfl) T.list (by decide +kernel) (pa_cons (pe_dget hu (pv 1) pe_str (fun _ _ => rfl)) pa_nil)) (pe_op op_mod (pv 6) (pe_callB call_lenR (by rfl) T.len (by decide +kernel) (pa_cons (pe_dget hu (pv 1) pe_str (fun _ _ => rfl)) pa_nil))) (fun _ _ => rfl)))
    (pss_cons (ps_dput hu (pe_dget hu (pv 1) pe_str (fun _ _ => rfl)) (pv 7) (pe_op op_mod (pe_op op_fdiv (pv 6) pe_int) pe_int) rfl)
    (pss_one (ps_expr (pe_meth (pv 2) T.clS M6 G6 (hr.mono (by decide)) B6 .nil pass0 (pa_cons (pv 7) (pa_cons (pe_op op_mod (pe_op op_fdiv (pv 6) pe_int) pe_int) pa_nil))))))) (pss_one (ps_if (PW.pt (pw_and (pt_cmpR op_eq (pv 5) pe_int (by rfl)) (pw_and1 (pt_cmpR op_eq (pe_op op_mod (pv 6) pe_int) pe_int (by rfl))))) (pss_cons (ps_dput hu (pv 1) pe_str (pe_op op_add (pe_dget hu (pv 1) pe_str (fun _ _ => rfl)) pe_int) rfl)
    (pss_one (ps_expr (pe_meth0 (pv 2) T.clS M7 G7 (hr.mono (by decide)) B7 .nil pass0)))) (pss_cons (ps_dput hu (pv 1) pe_str (pe_ix (kIxT (K := K)) (pe_ix (kIxL (K := K)) (pe_dget hu (pv 0) pe_str (fun _ _ => rfl)) (pe_op op_mod (pv 6) (pe_callB (kLen (K := K)) (by rfl) T.len (by decide +kernel) (pa_cons (pe_dget hu (pv 0) pe_str (fun _ _ => rfl)) pa_nil))) (fun _ _ => rfl)) pe_int (fun _ _ => rfl)) rfl)
    (pss_one (ps_expr (pe_meth (pv 2) T.clS M8 G8 (hr.mono (by decide)) B8 .nil pass0 (pa_cons (pe_dget hu (pv 1) pe_str (fun _ _ => rfl)) pa_nil)))))))))))))))))), ?_⟩
  have rz : Rz mt [some m.d, some s.d, some (stD S W m s), some (.int n), none, none, none, none, none, none, none, none, none, none] (L2.start N_law_moved [vm, .ref B.ow, .ref A.st, .int n]) H := (RzL.on mm.toM (.on ow.dm (.on st.dm (.on (.int n) (.no (.no (.no (.no (.no (.no (.no (.no (.no (.no (.nil))))))))))))))).rz
  let ts := m.things.filter fun t => !decide (("door" : Str) ∈ t.traits)
  have tsm : ∀ t, t ∈ ts → t ∈ m.things := fun t h => (List.mem_filter.mp h).1
  have tsd : ∀ t, t ∈ ts → hasT m t.name "door" = false := fun t h => by
    rw [hasT_t wm (tsm t h)]
    have q := (List.mem_filter.mp h).2
    cases z : decide (("door" : Str) ∈ t.traits) with
    | false => rfl
    | true => rw [z] at q; cases q
  refine u_seq (u_asg (d := .lst (ts.map Thing.d)) (EvN.toD (en_lc Thing.d m.things (fun t ρ => ρ.set 10 (some t.d)) (fun t => !decide (("door" : Str) ∈ t.traits)) Thing.d (ev_things (ev_var rfl)) hb (fun _ _ => tg_name) (fun t _ => et_test (ev_op ev_str (ev_op (x := t.d) (ev_var rfl) ev_int (rd_ixT (d := .tup (t.traits.map .str)) rfl)) rd_notInT)) (fun t _ _ => ev_var rfl))) rz fun v4 H1 s1 m4 rz => ?_)
  refine u_seq (u_asg (d := .int (n % 9)) (ev_op (ev_var rfl) ev_int (rd_ic (by decide))) rz fun v5 H2 s2 m5 rz => ?_)
  refine u_seq (u_asg (d := .int (n / 9)) (ev_op (ev_var rfl) ev_int (rd_ic ⟨by decide, by decide⟩)) rz fun v6 H3 s3 m6 rz => ?_)
  cases m6
  have sa := (s1.trans s2).trans s3
  refine u_if (b := decide (n % 9 < 4) && !ts.isEmpty) (et_and (et_test (ev_op (ev_var rfl) ev_int rd_ib)) (fun _ => et_test (ev_op (ev_var rfl) (EvN.toD (en_lst ea_nil (Nat.zero_le _))) (rd_neNilT fun t ht => wm.tok t (tsm t ht))))) rz (fun hb1 H4 s4 rz => ?_) (fun hb1 H4 s4 rz => ?_)
  · have hne : ts ≠ [] := fun z => by
      have q := (Bool.and_eq_true_iff.mp hb1).2
      rw [z] at q
      cases q
    obtain ⟨t, ht, et⟩ := atI_mod Thing.d ts hne (n / 9) (L := (ts.map Thing.d).length) (List.length_map ..)
    have hpos : (0 : Int) < ((ts.map Thing.d).length : Int) := by
      have : 0 < ts.length := List.length_pos_iff.mpr hne
      rw [List.length_map]
      omega
    have hx : t.name ∈ m.names := List.mem_map.mpr ⟨t, tsm t ht, rfl⟩
    have hd := tsd t ht
    refine u_seq (u_asg (i := 7) (d := .str t.name) (ev_op (ev_op (ev_var rfl) (ev_op (ev_var rfl) (ev_cb (ea_cons (ev_var rfl) ea_nil) cd_lenL) (rd_ic hpos)) (rd_ixL et)) ev_int (rd_ixT (d := .str t.name) rfl)) rz fun v7 H5 s5 m7 rz => ?_)
    cases m7
    have hpl := wm.pl
    have s1len : (spots1 m).length ≤ 11 := by
      unfold spots1
      rw [List.length_append, List.length_map]
      show _ + 3 ≤ _
      omega
    have hhl := holders_len wm.tl
    have hfl : ((holdersF m).filter (freeH s t.name)).length ≤ 24 := Nat.le_trans (List.length_filter_le ..) hhl
    refine u_seq (u_asg (d := .lst ((spots1 m).map Wh.d)) (EvD.is (EvN.toD (en_op (EvN.toD (en_map placeD m.places (fun p ρ => ρ.set 12 (some (placeD p))) (fun p => (Wh.at_ p.1).d) (ev_places (ev_var rfl)) (by omega) (fun _ _ => tg_name) (fun p _ => ev_at (ev_op (x := placeD p) (ev_var rfl) ev_int (rd_ixT (d := .str p.1) rfl))))) (EvN.toD (ds := [Wh.with_.d, Wh.with_.d, Wh.nowhere.d]) (en_lst (ea_cons ev_with (ea_cons ev_with (ea_cons (ev_one ev_str) ea_nil))) (by show 3 ≤ 100000; decide))) (rn_cat ?_))) ?_) rz fun v8 H6 s6 m8 rz => ?_)
    · rw [List.length_map]
      show _ + 3 ≤ _
      omega
    · unfold spots1
      rw [List.map_append, List.map_map]
      rfl
    refine u_seq (u_asg (d := .lst ((spotsF m s t.name).map Wh.d)) (EvD.is (EvN.toD (en_op (ev_var rfl) (EvN.toD (en_op (EvN.toD (en_lc Wh.d (holdersF m) (fun w ρ => ρ.set 13 (some w.d)) (freeH s t.name) Wh.d (EvN.toD (en_call (ea_cons (ev_var rfl) ea_nil) ⟨m, wm.tl, rfl, rfl⟩)) (by omega) (fun _ _ => tg_name) (fun w hw => ?_) (fun w _ _ => ev_var rfl))) ev_int (rn_rep (k := 3) ?_ (by decide)))) (rn_cat ?_))) ?_) rz fun v8' H7 s7 m8' rz => ?_)
    · obtain ⟨⟨b, y, e, hy⟩, _⟩ := holder_of wm hw
      subst e
      obtain ⟨kc, hl⟩ := wf.chain hy
      refine (et_not (et_B (ev_call (ea_cons (ev_var rfl) (ea_cons (ev_var rfl) (ea_cons (ev_arg (p := (b, y)) (ev_var rfl)) ea_nil))) ⟨s, t.name, y, _, (chn s y).1, _, wf.whF hy, kc, hl, rfl, rfl⟩))).is ?_
      unfold freeH
      rw [hN_link]
    · rw [List.length_map]
      omega
    · rw [List.length_map]
      have q : ∀ (k : Nat) (l : List D), (List.replicate k l).flatten.length = k * l.length := fun k l => by
        induction k with
        | zero => simp
        | succ k ih => rw [List.replicate_succ, List.flatten_cons, List.length_append, ih, Nat.succ_mul, Nat.add_comm]
      rw [q, List.length_map]
      omega
    · unfold spotsF
      rw [List.map_append]
      congr 2
      rw [List.map_flatten, List.map_replicate]
    obtain ⟨w, hw, ew⟩ := atI_mod Wh.d (spotsF m s t.name) (spots_ne m s t.name) (n / 9 / 12) (L := ((spotsF m s t.name).map Wh.d).length) (List.length_map ..)
    have hpos2 : (0 : Int) < (((spotsF m s t.name).map Wh.d).length : Int) := by
      have : 0 < (spotsF m s t.name).length := List.length_pos_iff.mpr (spots_ne m s t.name)
      rw [List.length_map]
      omega
    have mo := spots_ok wf hx hd hw
    have okw : w.ok = true := by
      have q := mo.wh
      cases w with
      | at_ p => exact wm.placeOk q
      | in_ b =>
        obtain ⟨t, ht, _⟩ := q
        exact wm.inOk (thg_in ht)
      | on_ b =>
        obtain ⟨t, ht, _⟩ := q
        exact wm.onOk (thg_in ht)
      | with_ => rfl
      | nowhere => rfl
    refine u_seq (u_asg (i := 9) (d := w.d) (ev_op (ev_var rfl) (ev_op (ev_op (ev_var rfl) ev_int (rd_ic ⟨by decide, by decide⟩)) (ev_cb (ea_cons (ev_var rfl) ea_nil) cd_lenL) (rd_ic hpos2)) (rd_ixL ew)) rz fun v9 H8 s8 m9 rz => ?_)
    have sH := ((((sa.trans s4).trans s5).trans s6).trans s7).trans s8
    have stH := st.same sH
    have owH := ow.same sH
    have ntH := noTupAB stH owH
    have m9o := Dm.lift ntH m9 (tu_wh w)
    obtain ⟨ws, ews, kws⟩ := owH.wh
    have kx : t.name ∈ s.whs.map (·.1) := by rw [wf.wk]; exact hx
    have kx2 : t.name ∈ s.worn.map (·.1) := by rw [wf.wok]; exact hx
    have hz : ws.length < 100000 := by rw [kws.length, whs_len]; have := wf.whl; omega
    dsimp only
    refine u_seq (u_putV (v := v9) (key := t.name) (fun Q q => ⟨_, rfl, q⟩) (ev_var rfl) rz (ow_at owH rfl (v := .ref B.wh) 2 (by decide +kernel) rfl) ews hz fun H9 s9 => ?_)
    have ow9 : Ow (AB A B) (upd H9 B.wh (.dK (putK ws (.inr t.name) v9))) B { s with whs := put s.whs t.name w } := (owH.same s9).setWh (by
      have q := (kws.same s9).put t.name (m9o.same s9)
      rw [putD_wh kx] at q
      exact q)
    have fB : Fr (inB B) H8 (upd H9 B.wh (.dK (putK ws (.inr t.name) v9))) := (Fr.of s9).trans (Fr.upd (show B.wh ∈ B.l by simp [Bds.l]))
    generalize upd H9 B.wh (.dK (putK ws (.inr t.name) v9)) = H10 at ow9 fB
    have st9 := stH.fr fB (fun b z => .inr z) (fun b hb z => dj b hb z)
    have m10 := m9o.fr fB (fun b z => .inr z)
    have rz10 : Rz mt [none, some ({ s with whs := put s.whs t.name w } : Sta).d, none, none, none, none, none, some (.str t.name), none, some w.d, none, none, none, none] (((((((L2.start N_law_moved [vm, .ref B.ow, .ref A.st, .int n]).set 4 (some v4)).set 5 (some v5)).set 6 (some (.int (n / 9)))).set 7 (some (.str t.name))).set 8 (some v8)).set 8 (some v8') |>.set 9 (some v9)) H10 := (RzL.no (.on ow9.dm (.no (.no (.no (.no (.no (.on (.str _) (.no (.on m10.toM (.no (.no (.no (.no .nil)))))))))))))).rz
    obtain ⟨wo, ewo, kwo⟩ := ow9.wo
    have hzo : wo.length < 100000 := by rw [kwo.length, bls_len]; have := wf.wornl; show s.worn.length < _; omega
    refine u_seq (u_put (d := .bl (wornF s t.name && decide (w = .with_))) (key := t.name) (ev_andV (ev_dget (ev_worn (s := { s with whs := put s.whs t.name w }) (ev_var rfl)) (ev_var rfl) (show valD (blsD s.worn) t.name = some (.bl (wornF s t.name)) from val_worn wf hx)) (fun _ => ev_op (ev_var rfl) ev_with (rd_eqW okw rfl))) (ev_var rfl) rz10 (ow_at ow9 rfl (v := .ref B.wo) 4 (by decide +kernel) rfl) ewo hzo fun vv H11 s11 m11 => ?_)
    cases m11
    have ow11 : Ow (AB A B) (upd H11 B.wo (.dK (putK wo (.inr t.name) (.bl (wornF s t.name && decide (w = .with_)))))) B (moveS s t.name w) := (ow9.same s11).setWo (l := put s.worn t.name (wornF s t.name && decide (w = .with_))) (by
      have q := (kwo.same s11).put t.name (.bl (wornF s t.name && decide (w = .with_)))
      rw [putD_bl kx2] at q
      exact q)
    have fB2 : Fr (inB B) H10 (upd H11 B.wo (.dK (putK wo (.inr t.name) (.bl (wornF s t.name && decide (w = .with_)))))) := (Fr.of s11).trans (Fr.upd (show B.wo ∈ B.l by simp [Bds.l]))
    generalize upd H11 B.wo (.dK (putK wo (.inr t.name) (.bl (wornF s t.name && decide (w = .with_))))) = H12 at ow11 fB2
    have st11 := st9.fr fB2 (fun b z => .inr z) (fun b hb z => dj b hb z)
    have m12 := m10.fr fB2 (fun b z => .inr z)
    have rz12 : Rz mt [none, none, none, none, none, none, none, some (.str t.name), none, some w.d, none, none, none, none] (((((((L2.start N_law_moved [vm, .ref B.ow, .ref A.st, .int n]).set 4 (some v4)).set 5 (some v5)).set 6 (some (.int (n / 9)))).set 7 (some (.str t.name))).set 8 (some v8)).set 8 (some v8') |>.set 9 (some v9)) H12 := (RzL.no (.no (.no (.no (.no (.no (.no (.on (.str _) (.no (.on m12.toM (.no (.no (.no (.no .nil)))))))))))))).rz
    refine st_call st11 rfl (by decide +kernel) (ea_cons (ev_var rfl) (ea_cons (ev_var rfl) ea_nil)) rz12 fun vs H13 s13 mvs => ?_
    cases mvs with | cons n1 mvs =>
    cases mvs with | cons n2 mvs =>
    cases mvs
    cases n1
    have st13 := st11.same s13
    have ow13 := ow11.same s13
    refine ⟨AB A B, A, m, s, t.name, w, _, wf, st13, mo, Dm.lift (noTupAB st13 ow13) n2 (tu_wh w), rfl, fun H14 f14 st14 => ?_⟩
    exact k H14 (moveS s t.name w) (((((Fr.of sH).trans (fB.sub fun b z => .inr z)).trans (fB2.sub fun b z => .inr z)).trans (Fr.of s13)).trans (f14.sub fun b z => .inl z)) (wf.move mo) st14 (ow13.fr f14 (fun b z => .inl z) (fun b hb z => dj b z hb))
  refine u_if (b := decide (n % 9 < 6) && !(blsD s.ops).isEmpty) (et_and (et_test (ev_op (ev_var rfl) ev_int rd_ib)) (fun _ => et_test (ev_op (ev_open (ev_var rfl)) (EvM.toD em_empty) rd_neE))) rz (fun hb2 H5 s5 rz => ?_) (fun hb2 H5 s5 rz => ?_)
  · have hne : s.ops.map (·.1) ≠ [] := fun z => by
      have q := (Bool.and_eq_true_iff.mp hb2).2
      have z2 : s.ops = [] := List.map_eq_nil_iff.mp z
      rw [z2] at q
      cases q
    obtain ⟨x, hx, ex⟩ := atI_mod D.str (s.ops.map (·.1)) hne (n / 9) (L := (blsD s.ops).length) (by rw [bls_len, List.length_map])
    have hpos : (0 : Int) < ((blsD s.ops).length : Int) := by
      have : 0 < (s.ops.map (·.1)).length := List.length_pos_iff.mpr hne
      rw [List.length_map] at this
      rw [bls_len]
      omega
    refine u_seq (u_asg (i := 7) (d := .str x) (ev_op (EvN.toD (en_cb (ea_cons (ev_open (ev_var rfl)) ea_nil) cn_listD)) (ev_op (ev_var rfl) (ev_cb (ea_cons (ev_open (ev_var rfl)) ea_nil) cd_lenD) (rd_ic hpos)) (rd_ixL (by rw [bls_keys]; exact ex))) rz fun v7 H6 s6 m7 rz => ?_)
    cases m7
    have sH := ((sa.trans s4).trans s5).trans s6
    have stH := st.same sH
    have owH := ow.same sH
    obtain ⟨ws, ews, kws⟩ := owH.op
    have hz : ws.length < 100000 := by rw [kws.length]; have := wf.opsl; rw [bls_len]; omega
    refine u_seq (u_put (d := .bl (decide (n / 9 / 12 % 2 = 0))) (key := x) (ev_op (ev_op (ev_op (ev_var rfl) ev_int (rd_ic ⟨by decide, by decide⟩)) ev_int (rd_ic (by decide))) ev_int rd_eqI) (ev_var rfl) rz (ow_at owH rfl (v := .ref B.op) 3 (by decide +kernel) rfl) ews hz fun vv H9 s9 m9 => ?_)
    cases m9
    have ow9 : Ow (AB A B) (upd H9 B.op (.dK (putK ws (.inr x) (.bl (decide (n / 9 / 12 % 2 = 0)))))) B (openS s x (decide (n / 9 / 12 % 2 = 0))) := (owH.same s9).setOp (l := put s.ops x (decide (n / 9 / 12 % 2 = 0))) (by
      have q := (kws.same s9).put x (.bl (decide (n / 9 / 12 % 2 = 0)))
      rw [putD_bl hx] at q
      exact q)
    have fB : Fr (inB B) H (upd H9 B.op (.dK (putK ws (.inr x) (.bl (decide (n / 9 / 12 % 2 = 0)))))) := (Fr.of (sH.trans s9)).trans (Fr.upd (show B.op ∈ B.l by simp [Bds.l]))
    generalize upd H9 B.op (.dK (putK ws (.inr x) (.bl (decide (n / 9 / 12 % 2 = 0))))) = H10 at ow9 fB
    have st9 := st.fr fB (fun b z => .inr z) (fun b hb z => dj b hb z)
    have rz9 : Rz mt [none, none, none, none, none, none, some (.int (n / 9)), some (.str x), none, none, none, none, none, none] (((((L2.start N_law_moved [vm, .ref B.ow, .ref A.st, .int n]).set 4 (some v4)).set 5 (some v5)).set 6 (some (.int (n / 9)))).set 7 (some (.str x))) H10 := (RzL.no (.no (.no (.no (.no (.no (.on (.int _) (.on (.str x) (.no (.no (.no (.no (.no (.no .nil)))))))))))))).rz
    refine st_call st9 rfl (by decide +kernel) (ea_cons (ev_var rfl) (ea_cons (ev_op (ev_op (ev_op (ev_var rfl) ev_int (rd_ic ⟨by decide, by decide⟩)) ev_int (rd_ic (by decide))) ev_int rd_eqI) ea_nil)) rz9 fun vs H11 s11 mvs => ?_
    cases mvs with | cons n1 mvs =>
    cases mvs with | cons n2 mvs =>
    cases mvs
    cases n1
    cases n2
    refine ⟨AB A B, A, m, s, x, _, wf, st9.same s11, hx, rfl, fun H12 f12 st12 => ?_⟩
    exact k H12 (openS s x (decide (n / 9 / 12 % 2 = 0))) (((fB.sub fun b z => .inr z).trans (Fr.of s11)).trans (f12.sub fun b z => .inl z)) wf.open_ st12 ((ow9.same s11).fr f12 (fun b z => .inl z) (fun b hb z => dj b z hb))
  refine u_if (b := decide (n % 9 = 6)) (et_test (ev_op (ev_var rfl) ev_int rd_eqI)) rz (fun hb3 H6 s6 rz => ?_) (fun hb3 H6 s6 rz => ?_)
  · let ws0 := (ts.filter fun t => decide (("wear" : Str) ∈ t.traits) && decide (whF s t.name = .with_)).map (·.name)
    have wsm : ∀ x, x ∈ ws0 → x ∈ m.names ∧ hasT m x "wear" = true ∧ whF s x = .with_ := fun x hx => by
      obtain ⟨t, ht, e⟩ := List.mem_map.mp hx
      obtain ⟨h1, h2⟩ := List.mem_filter.mp ht
      obtain ⟨h3, h4⟩ := Bool.and_eq_true_iff.mp h2
      rw [← e]
      exact ⟨List.mem_map.mpr ⟨t, tsm t h1, rfl⟩, by rw [hasT_t wm (tsm t h1)]; exact h3, of_decide_eq_true h4⟩
    refine u_seq (u_asg (d := .lst (ws0.map .str)) (EvD.is (EvN.toD (en_lc Thing.d ts (fun t ρ => ρ.set 10 (some t.d)) (fun t => decide (("wear" : Str) ∈ t.traits) && decide (whF s t.name = .with_)) (fun t => .str t.name) (ev_var rfl) (Nat.lt_of_le_of_lt (List.length_filter_le ..) hb) (fun _ _ => tg_name) (fun t ht => ?_) (fun t _ _ => (ev_op (x := t.d) (ev_var rfl) ev_int (rd_ixT (d := .str t.name) rfl))))) ?_) rz fun v11 H7 s7 m11 rz => ?_)
    · have hx : t.name ∈ m.names := List.mem_map.mpr ⟨t, tsm t ht, rfl⟩
      exact et_and (et_test (ev_op ev_str (ev_op (x := t.d) (ev_var rfl) ev_int (rd_ixT (d := .tup (t.traits.map .str)) rfl)) rd_inT)) (fun _ => et_test (ev_op (ev_dget (ev_where (ev_var rfl)) (ev_op (x := t.d) (ev_var rfl) ev_int (rd_ixT (d := .str t.name) rfl)) (val_wh (wf.whF hx))) ev_with (rd_eqW (wf.whok (wf.whF hx)) rfl)))
    · rw [List.map_map]
      rfl
    refine u_if (b := !ws0.isEmpty) (et_test (ev_op (ev_var rfl) (EvN.toD (en_lst ea_nil (Nat.zero_le _))) (rd_neNil (names_ok wm fun x hx => (wsm x hx).1)))) rz (fun hb4 H8 s8 rz => ?_) (fun hb4 H8 s8 rz => ?_)
    · have hne : ws0 ≠ [] := fun z => by rw [z] at hb4; cases hb4
      obtain ⟨x, hxm, ex⟩ := atI_mod D.str ws0 hne (n / 9) (L := (ws0.map D.str).length) (List.length_map ..)
      have hpos : (0 : Int) < ((ws0.map D.str).length : Int) := by
        have : 0 < ws0.length := List.length_pos_iff.mpr hne
        rw [List.length_map]
        omega
      obtain ⟨hx, hw, hh⟩ := wsm x hxm
      have kx : x ∈ s.worn.map (·.1) := by rw [wf.wok]; exact hx
      refine u_seq (u_asg (i := 7) (d := .str x) (ev_op (ev_var rfl) (ev_op (ev_var rfl) (ev_cb (ea_cons (ev_var rfl) ea_nil) cd_lenL) (rd_ic hpos)) (rd_ixL ex)) rz fun v7 H9 s9 m7 rz => ?_)
      cases m7
      have sH := (((((sa.trans s4).trans s5).trans s6).trans s7).trans s8).trans s9
      have stH := st.same sH
      have owH := ow.same sH
      obtain ⟨ws, ews, kws⟩ := owH.wo
      have hz : ws.length < 100000 := by rw [kws.length]; have := wf.wornl; rw [bls_len]; omega
      refine u_seq (u_put (d := .bl (decide (0 < n / 9 / 12 % 3))) (key := x) (ev_op (ev_op (ev_op (ev_var rfl) ev_int (rd_ic ⟨by decide, by decide⟩)) ev_int (rd_ic (by decide))) ev_int rd_ib) (ev_var rfl) rz (ow_at owH rfl (v := .ref B.wo) 4 (by decide +kernel) rfl) ews hz fun vv H9 s9 m9 => ?_)
      cases m9
      have ow9 : Ow (AB A B) (upd H9 B.wo (.dK (putK ws (.inr x) (.bl (decide (0 < n / 9 / 12 % 3)))))) B (wearS s x (decide (0 < n / 9 / 12 % 3))) := (owH.same s9).setWo (l := put s.worn x (decide (0 < n / 9 / 12 % 3))) (by
        have q := (kws.same s9).put x (.bl (decide (0 < n / 9 / 12 % 3)))
        rw [putD_bl kx] at q
        exact q)
      have fB : Fr (inB B) H (upd H9 B.wo (.dK (putK ws (.inr x) (.bl (decide (0 < n / 9 / 12 % 3)))))) := (Fr.of (sH.trans s9)).trans (Fr.upd (show B.wo ∈ B.l by simp [Bds.l]))
      generalize upd H9 B.wo (.dK (putK ws (.inr x) (.bl (decide (0 < n / 9 / 12 % 3))))) = H10 at ow9 fB
      have st9 := st.fr fB (fun b z => .inr z) (fun b hb z => dj b hb z)
      have rz9 : Rz mt [none, none, none, none, none, none, some (.int (n / 9)), some (.str x), none, none, none, none, none, none] ((((((L2.start N_law_moved [vm, .ref B.ow, .ref A.st, .int n]).set 4 (some v4)).set 5 (some v5)).set 6 (some (.int (n / 9)))).set 11 (some v11)).set 7 (some (.str x))) H10 := (RzL.no (.no (.no (.no (.no (.no (.on (.int _) (.on (.str x) (.no (.no (.no (.no (.no (.no .nil)))))))))))))).rz
      refine st_call st9 rfl (by decide +kernel) (ea_cons (ev_var rfl) (ea_cons (ev_op (ev_op (ev_op (ev_var rfl) ev_int (rd_ic ⟨by decide, by decide⟩)) ev_int (rd_ic (by decide))) ev_int rd_ib) ea_nil)) rz9 fun vs H11 s11 mvs => ?_
      cases mvs with | cons n1 mvs =>
      cases mvs with | cons n2 mvs =>
      cases mvs
      cases n1
      cases n2
      refine ⟨AB A B, A, m, s, x, _, wf, st9.same s11, hx, hw, hh, rfl, fun H12 f12 st12 => ?_⟩
      exact k H12 (wearS s x (decide (0 < n / 9 / 12 % 3))) (((fB.sub fun b z => .inr z).trans (Fr.of s11)).trans (f12.sub fun b z => .inl z)) wf.wear st12 ((ow9.same s11).fr f12 (fun b z => .inl z) (fun b hb z => dj b z hb))
    · have sH := ((((sa.trans s4).trans s5).trans s6).trans s7).trans s8
      exact k H8 s (Fr.of sH) wf (st.same sH) (ow.same sH)
  refine u_if (b := decide (n % 9 = 7) && !(numsD s.nums).isEmpty) (et_and (et_test (ev_op (ev_var rfl) ev_int rd_eqI)) (fun _ => et_test (ev_op (ev_numbers (ev_var rfl)) (EvM.toD em_empty) rd_neE))) rz (fun hb4 H7 s7 rz => ?_) (fun hb4 H7 s7 rz => ?_)
  · have hne : s.nums.map (·.1) ≠ [] := fun z => by
      have q := (Bool.and_eq_true_iff.mp hb4).2
      have z2 : s.nums = [] := List.map_eq_nil_iff.mp z
      rw [z2] at q
      cases q
    obtain ⟨x, hx, ex⟩ := atI_mod D.str (s.nums.map (·.1)) hne (n / 9) (L := (numsD s.nums).length) (by rw [nums_len, List.length_map])
    have hpos : (0 : Int) < ((numsD s.nums).length : Int) := by
      have : 0 < (s.nums.map (·.1)).length := List.length_pos_iff.mpr hne
      rw [List.length_map] at this
      rw [nums_len]
      omega
    refine u_seq (u_asg (i := 7) (d := .str x) (ev_op (EvN.toD (en_cb (ea_cons (ev_numbers (ev_var rfl)) ea_nil) cn_listD)) (ev_op (ev_var rfl) (ev_cb (ea_cons (ev_numbers (ev_var rfl)) ea_nil) cd_lenD) (rd_ic hpos)) (rd_ixL (by rw [nums_keys]; exact ex))) rz fun v7 H8 s8 m7 rz => ?_)
    cases m7
    have sH := ((((sa.trans s4).trans s5).trans s6).trans s7).trans s8
    have stH := st.same sH
    have owH := ow.same sH
    obtain ⟨ws, ews, kws⟩ := owH.nu
    have hz : ws.length < 100000 := by rw [kws.length]; have := wf.numsl; rw [nums_len]; omega
    refine u_seq (u_put (d := .int (n / 9 / 12 % 10)) (key := x) (ev_op (ev_op (ev_var rfl) ev_int (rd_ic ⟨by decide, by decide⟩)) ev_int (rd_ic (by decide))) (ev_var rfl) rz (ow_at owH rfl (v := .ref B.nu) 5 (by decide +kernel) rfl) ews hz fun vv H9 s9 m9 => ?_)
    cases m9
    have ow9 : Ow (AB A B) (upd H9 B.nu (.dK (putK ws (.inr x) (.int (n / 9 / 12 % 10))))) B (numS s x (n / 9 / 12 % 10)) := (owH.same s9).setNu (l := put s.nums x (n / 9 / 12 % 10)) (by
      have q := (kws.same s9).put x (.int (n / 9 / 12 % 10))
      rw [putD_num hx] at q
      exact q)
    have fB : Fr (inB B) H (upd H9 B.nu (.dK (putK ws (.inr x) (.int (n / 9 / 12 % 10))))) := (Fr.of (sH.trans s9)).trans (Fr.upd (show B.nu ∈ B.l by simp [Bds.l]))
    generalize upd H9 B.nu (.dK (putK ws (.inr x) (.int (n / 9 / 12 % 10)))) = H10 at ow9 fB
    have st9 := st.fr fB (fun b z => .inr z) (fun b hb z => dj b hb z)
    have rz9 : Rz mt [none, none, none, none, none, none, some (.int (n / 9)), some (.str x), none, none, none, none, none, none] (((((L2.start N_law_moved [vm, .ref B.ow, .ref A.st, .int n]).set 4 (some v4)).set 5 (some v5)).set 6 (some (.int (n / 9)))).set 7 (some (.str x))) H10 := (RzL.no (.no (.no (.no (.no (.no (.on (.int _) (.on (.str x) (.no (.no (.no (.no (.no (.no .nil)))))))))))))).rz
    refine st_call st9 rfl (by decide +kernel) (ea_cons (ev_var rfl) (ea_cons (ev_op (ev_op (ev_var rfl) ev_int (rd_ic ⟨by decide, by decide⟩)) ev_int (rd_ic (by decide))) ea_nil)) rz9 fun vs H11 s11 mvs => ?_
    cases mvs with | cons n1 mvs =>
    cases mvs with | cons n2 mvs =>
    cases mvs
    cases n1
    cases n2
    refine ⟨AB A B, A, m, s, x, _, wf, st9.same s11, hx, Int.emod_nonneg _ (by decide), Int.le_of_lt_add_one (Int.emod_lt_of_pos _ (by decide)), rfl, fun H12 f12 st12 => ?_⟩
    exact k H12 (numS s x (n / 9 / 12 % 10)) (((fB.sub fun b z => .inr z).trans (Fr.of s11)).trans (f12.sub fun b z => .inl z)) wf.num st12 ((ow9.same s11).fr f12 (fun b z => .inl z) (fun b hb z => dj b z hb))
  refine u_if (b := decide (n % 9 = 8) && decide (n / 9 % 3 = 0)) (et_and (et_test (ev_op (ev_var rfl) ev_int rd_eqI)) (fun _ => et_test (ev_op (ev_op (ev_var rfl) ev_int (rd_ic (by decide))) ev_int rd_eqI))) rz (fun hb5 H8 s8 rz => ?_) (fun hb5 H8 s8 rz => ?_)
  · have sH := ((((sa.trans s4).trans s5).trans s6).trans s7).trans s8
    have owH := ow.same sH
    refine u_seq (u_put (d := .int (s.turn + 1)) (key := "turn") (ev_op (ev_turn (ev_var rfl)) ev_int rd_ii) ev_str rz (fun H' _ Q q => ⟨_, rfl, q⟩) owH.ob (by show 6 < 100000; decide) fun vv H9 s9 m9 => ?_)
    cases m9
    rw [ow_turn]
    have ow9 := (owH.same s9).setOb (s2 := turnS s) rfl rfl rfl rfl
    have fB : Fr (inB B) H (upd H9 B.ow (.dK (owF B (turnS s)))) := (Fr.of (sH.trans s9)).trans (Fr.upd (show B.ow ∈ B.l by simp [Bds.l]))
    generalize upd H9 B.ow (.dK (owF B (turnS s))) = H10 at ow9 fB
    have st9 := st.fr fB (fun b z => .inr z) (fun b hb z => dj b hb z)
    refine st_call st9 rfl (by decide +kernel) ea_nil (ρ := [none, none, none, none, none, none, none, none, none, none, none, none, none, none]) ((RzL.no (.no (.no (.no (.no (.no (.no (.no (.no (.no (.no (.no (.no (.no .nil)))))))))))))).rz) fun vs H11 s11 mvs => ?_
    cases mvs
    refine ⟨AB A B, A, m, s, wf, st9.same s11, rfl, fun H12 f12 st12 => ?_⟩
    exact k H12 (turnS s) (((fB.sub fun b z => .inr z).trans (Fr.of s11)).trans (f12.sub fun b z => .inl z)) wf.turn_ st12 ((ow9.same s11).fr f12 (fun b z => .inl z) (fun b hb z => dj b z hb))
  · have sH := ((((sa.trans s4).trans s5).trans s6).trans s7).trans s8
    have owH := ow.same sH
    obtain ⟨p, hp, ep⟩ := atI_mod placeD m.places wm.p1 (n / 9) (L := (m.places.map placeD).length) (List.length_map ..)
    have hpos : (0 : Int) < ((m.places.map placeD).length : Int) := by
      have : 0 < m.places.length := List.length_pos_iff.mpr wm.p1
      rw [List.length_map]
      omega
    have hpn : p.1 ∈ m.pnames := List.mem_map.mpr ⟨p, hp, rfl⟩
    refine u_seq (u_put (d := .str p.1) (key := "here") (ev_op (ev_op (ev_places (ev_var rfl)) (ev_op (ev_var rfl) (ev_cb (ea_cons (ev_places (ev_var rfl)) ea_nil) cd_lenL) (rd_ic hpos)) (rd_ixL ep)) ev_int (rd_ixT (d := .str p.1) rfl)) ev_str rz (fun H' _ Q q => ⟨_, rfl, q⟩) owH.ob (by show 6 < 100000; decide) fun vv H9 s9 m9 => ?_)
    cases m9
    rw [ow_here]
    have ow9 := (owH.same s9).setOb (s2 := goS s p.1) rfl rfl rfl rfl
    have fB : Fr (inB B) H (upd H9 B.ow (.dK (owF B (goS s p.1)))) := (Fr.of (sH.trans s9)).trans (Fr.upd (show B.ow ∈ B.l by simp [Bds.l]))
    generalize upd H9 B.ow (.dK (owF B (goS s p.1))) = H10 at ow9 fB
    have st9 := st.fr fB (fun b z => .inr z) (fun b hb z => dj b hb z)
    refine st_call st9 rfl (by decide +kernel) (ea_cons (ev_here (s := goS s p.1) (ev_var rfl)) ea_nil) (ρ := [none, some (goS s p.1).d, none, none, none, none, none, none, none, none, none, none, none, none]) ((RzL.no (.on ow9.dm (.no (.no (.no (.no (.no (.no (.no (.no (.no (.no (.no (.no .nil)))))))))))))).rz) fun vs H11 s11 mvs => ?_
    cases mvs with | cons n1 mvs =>
    cases mvs
    cases n1
    refine ⟨AB A B, A, m, s, p.1, wf, st9.same s11, hpn, rfl, fun H12 f12 st12 => ?_⟩
    exact k H12 (goS s p.1) (((fB.sub fun b z => .inr z).trans (Fr.of s11)).trans (f12.sub fun b z => .inl z)) (wf.go hpn) st12 ((ow9.same s11).fr f12 (fun b z => .inl z) (fun b hb z => dj b z hb))
end Wt

namespace Wt
open PySem PySem.Spec PyProof.Rows L2
abbrev N_law_right : List Str := ["_law_model_here", "_law_own_here", "_law_world", "_law_state", "_law_marked_here", "_law_turn", "_law_seen_here", "_law_due", "_law_named", "_law_found", "_law_thing"]
theorem sc_law_right : FnScope N_law_right ["_law_model_here", "_law_own_here", "_law_world", "_law_state"] (defScope s_law_right) := ⟨rfl, rfl, rfl, by decide +kernel, rfl, by decide +kernel, by decide +kernel⟩
theorem d_law_right {P : Program} {w : World} {K : PySem.W.Frag} {mg : Str → Option Value} {base : Heap} {S W : Addr} {f : Addr} {fd : FuncData} (F : FunW K "_law_right" "_law_right" s_law_right f fd) (T : Txt K mg S W)
    (c1 : CalF P w K mg base "_law_marked" 1 ["_law_model_here", "_law_own_here"] (SpM F_marked))
    (c2 : CalF P w K mg base "_law_look" 4 ["_law_model_here", "_law_own_here", "_law_marked_here"] (SpD F_llook))
    (c3 : CalF P w K mg base "hold_lines" 4 ["world", "state"] (SpN (F_hold S W)))
    (c4 : CalF P w K mg base "look_lines" 7 ["world", "state"] (SpN (F_look S W)))
    (c5 : CalF P w K mg base "_law_same" 5 ["_law_found", "_law_due"] (SpD (F_same 5)))
    (c6 : CalF P w K mg base "_law_listed" 3 ["_law_model_here", "_law_own_here"] (SpN F_llisted))
    (c7 : CalF P w K mg base "_law_seen" 3 ["_law_model_here", "_law_own_here", "_law_marked_here"] (SpN F_lseen)) : FnOk P w K mg base CX0 8 f fd ["_law_model_here", "_law_own_here", "_law_world", "_law_state"] (SpD (F_right S W)) := by
  obtain ⟨_, _, G1, M1, K1, B1⟩ := c1.ex
  obtain ⟨_, _, G2, M2, K2, B2⟩ := c2.ex
  obtain ⟨_, _, G3, M3, K3, B3⟩ := c3.ex
  obtain ⟨_, _, G4, M4, K4, B4⟩ := c4.ex
  obtain ⟨_, _, G5, M5, K5, B5⟩ := c5.ex
  obtain ⟨_, _, G6, M6, K6, B6⟩ := c6.ex
  obtain ⟨_, _, G7, M7, K7, B7⟩ := c7.ex
  refine F.ok sc_law_right (SpD.len (by rintro ds d ⟨m, s, wf, rfl, rfl⟩; rfl)) (fun cdv A outer s0 H vs Q E hr h => ?_)
  have hu := hu_of hr
  obtain ⟨O, ds, d, hd, hm, ⟨m, s, wf, rfl, rfl⟩, k⟩ := h
  refine ⟨_, PSs.nox (pss_cons (ps_set (i := 4) sc_law_right.nd rfl (Or.inl rfl) (pe_call G1 (hr.mono (by decide)) rfl M1 K1 B1 .nil pass0 (pa_cons (pv 0) (pa_cons (pv 1) pa_nil))))
    (pss_cons (ps_asg (pe_call G2 (hr.mono (by decide)) rfl M2 K2 B2 .nil pass0 (pa_cons (pv 0) (pa_cons (pv 1) (pa_cons (pv 4) pa_nil)))) (kTupG (K := K) (by rfl) (pgs_cons (pg_name (i := 7) sc_law_right.nd rfl (Or.inl rfl)) (pgs_cons (pg_name (i := 8) sc_law_right.nd rfl (Or.inl rfl)) pgs_nil))))
    (pss_cons (ps_for PassesOwn.never rfl (pi_range1 (by rfl) T.range (pa_cons pe_int pa_nil)) (pg_name (i := 5) sc_law_right.nd rfl (Or.inl rfl)) (pss_cons (ps_set (i := 9) sc_law_right.nd rfl (Or.inl rfl) (pe_lst (pa_cons (pe_call G4 (hr.mono (by decide)) rfl M4 K4 B4 .nil pass0 (pa_cons (pv 2) (pa_cons (pv 3) pa_nil))) (pa_cons (pe_call G3 (hr.mono (by decide)) rfl M3 K3 B3 .nil pass0 (pa_cons (pv 2) (pa_cons (pv 3) pa_nil))) pa_nil))))
    (pss_cons (ps_if (pt_not (pt_val (pe_call G5 (hr.mono (by decide)) rfl M5 K5 B5 .nil pass0 (pa_cons (pv 9) (pa_cons (pe_lst (pa_cons (pv 7) (pa_cons (pe_call G6 (hr.mono (by decide)) rfl M6 K6 B6 .nil pass0 (pa_cons (pv 0) (pa_cons (pv 1) pa_nil))) pa_nil))) pa_nil))))) (pss_one (ps_ret pe_bl)) pss_nil)
    (pss_cons (ps_expr (pe_bm PySem.F.plainAttrs_list PySem.F.slot_list_append PySem.F.type_list_append mt_append (pe_ix (kIxL (K := K)) (pv 9) pe_int (fun _ _ => rfl)) (pa_cons pe_str pa_nil)))
    (pss_one (ps_expr (pe_bm0 PySem.F.plainAttrs_list PySem.F.slot_list_clear PySem.F.type_list_clear mt_clear (pe_ix (kIxL (K := K)) (pv 9) pe_int (fun _ _ => rfl)))))))))
    (pss_cons (ps_if (pt_cmpR (kEqD (K := K) hr.units) (pv 7) (pe_lst (pa_cons pe_str pa_nil)) (by rfl)) (pss_one (ps_ret (pe_cmpR op_eq (pv 8) pe_int (by rfl)))) pss_nil)
    (pss_cons (ps_set (i := 6) sc_law_right.nd rfl (Or.inl rfl) (pe_call G7 (hr.mono (by decide)) rfl M7 K7 B7 .nil pass0 (pa_cons (pv 0) (pa_cons (pv 1) (pa_cons (pv 4) pa_nil)))))
    (pss_one (ps_ret (pe_cmpR op_eq (pv 8) (pe_callB (kLen (K := K)) (by rfl) T.len (by decide +kernel) (pa_cons (pe_lc (own := [("_law_thing", 10)]) (g := (gName 10)) rfl sc_law_right.nd (kList (K := K) (pv 6)) (blkOk_by (own := [("_law_thing", 10)]) (N := N_law_right) (sc := defScope s_law_right) (by decide +kernel)) (fun _ _ _ _ _ => (pg_name (i := 10) sc_law_right.nd rfl (Or.inl rfl))) (fun _ _ _ _ _ => (pts_one (pt_cmpR (kNeD (K := K) hr.units) (pe_dget hu (pe_dget hu (pv 1) pe_str (fun _ _ => rfl)) (pv 10) (fun _ _ => rfl)) (pe_tup (pa_cons pe_str pa_nil)) (by rfl)))) (fun _ _ _ _ _ => (pv 10))) pa_nil)) (by rfl))))))))), ?_⟩
  have a : At O H [some m.d, some s.d, some (woD W m), some (stD S W m s), none, none, none, none, none, none, none] none (L2.start N_law_right vs) H := At.begin_ (N := N_law_right) hm
  have wm := wf.wm
  have mo := markOk wf
  have lk := look_len wf
  have hk := hold_len (m := m) (s := s)
  refine s_seq (s_asg hd (EvM.toD (em_call (ea_cons (ev_var rfl) (ea_cons (ev_var rfl) ea_nil)) ⟨m, s, wf, rfl, rfl⟩)).up (by decide) (fun σ H1 a => ?_) a)
  refine s_seq (s_asgT (d := .tup [.lst ((lookP m s).map .str), .int (namedF m s : Int)]) hd (EvD.up (ev_call (ea_cons (ev_var rfl) (ea_cons (ev_var rfl) (ea_cons (ev_var rfl) ea_nil))) ⟨m, s, _, wf, mo, rfl, rfl⟩)) (tg_tup (tgs_cons tg_name (tgs_cons tg_name tgs_nil)) rfl) (fun i z => by cases z) (fun σ H1 a => ?_) a)
  generalize mkAll m s 13 = mk at a mo
  refine s_seq (s_forR (n := 2) hd (ea_cons ev_int ea_nil) (by decide) (fun _ => [some m.d, some s.d, some (woD W m), some (stD S W m s), some (.dic (mksD mk)), none, none, some (.lst ((lookP m s).map .str)), some (.int (namedF m s : Int)), none, none]) (fun _ => none) (fun _ => True) rfl rfl trivial (fun n z => nomatch z) (fun i hi _ σ H1 a => ?_) (fun _ σ H1 a => ?_) a)
  · refine s_found (K := K) hd (en_call (ea_cons (ev_var rfl) (ea_cons (ev_var rfl) ea_nil)) ⟨m, s, wf, rfl, rfl⟩) (en_call (ea_cons (ev_var rfl) (ea_cons (ev_var rfl) ea_nil)) ⟨m, s, wf, rfl, rfl⟩) (by rw [List.length_map]; omega) (Nat.le_of_ble_eq_true rfl) ((et_not (et_B (ev_call (ea_cons (ev_var rfl) (ea_cons (EvN.toD (en_lst (ea_cons (ev_var rfl) (ea_cons (EvN.toD (en_call (ea_cons (ev_var rfl) (ea_cons (ev_var rfl) ea_nil)) ⟨m, s, wf, rfl, rfl⟩)) ea_nil)) (by show 2 ≤ 100000; decide))) ea_nil)) ⟨.lst [.lst ((lookP m s).map .str), .lst ((holdP m s).map .str)], ?_, rfl, rfl⟩))).is rfl) (fun σ H1 a => ⟨trivial, a.weak (.keep (.keep (.keep (.keep (.keep (.drop (.keep (.keep (.keep (.keep (.keep .nil)))))))))))⟩) a
    have h1 := dp_lst (n := 2) (l := lookP m s) (by omega)
    have h2 := dp_lst (n := 2) (l := holdP m s) (by omega)
    unfold D.dp
    unfold D.dpL
    unfold D.dpL
    unfold D.dpL
    rw [h1, h2]
    rfl
  have od : ∀ x, x ∈ (["It is dark."] : List Str) → PyData.strOk x = true := fun x hx => by
    rw [List.mem_singleton.mp hx]
    decide +kernel
  refine (q_when (b := decide (lookP m s = (["It is dark."] : List Str))) hd (et_test (ev_op (ev_var rfl) (EvN.toD (ds := (["It is dark."] : List Str).map .str) (en_lst (ea_cons ev_str ea_nil) (by show 1 ≤ 100000; decide))) (rd_eqL (look_ok wf) od))).up (fun hb σ H1 a => ?_) (fun hb σ H1 a => ?_) a)
  · have hl := (dark_iff wf).mp (of_decide_eq_true hb)
    have e : namedF m s = 0 := by unfold namedF; rw [if_neg (by rw [hl]; decide)]
    rw [e] at a
    exact s_ret (d := .bl true) hd (EvD.up ((ev_op (ev_var rfl) ev_int (rd_eqI (i := ((0 : Nat) : Int)) (j := 0))).is (congrArg D.bl (by decide)))) k a
  · have hl : litF m s s.here = true := by
      cases q : litF m s s.here with
      | true => rfl
      | false => exact absurd ((dark_iff wf).mpr q) (of_decide_eq_false hb)
    have en := named_eq wf hl
    have hsl := seen_len (s := s) wm
    refine s_seq (s_asg hd (EvN.toD (en_call (ea_cons (ev_var rfl) (ea_cons (ev_var rfl) (ea_cons (ev_var rfl) ea_nil))) ⟨m, s, mk, wf, mo, rfl, rfl⟩)).up (by decide) (fun σ H1 a => ?_) a)
    refine s_ret hd (EvD.up ((ev_op (ev_var rfl) (ev_cb (ea_cons (EvN.toD (en_lc D.str (seenF m s) (fun x ρ => ρ.set 10 (some (.str x))) (fun x => !decide (whF s x = .with_)) D.str (ev_var rfl) (Nat.lt_of_le_of_lt hsl (by decide)) (fun _ _ => tg_name) (fun x hx => et_test (ev_op (ev_dget (ev_where (ev_var rfl)) (ev_var rfl) (val_wh (wf.whF (seen_sub hx)))) ev_with (rd_neW (wf.whok (wf.whF (seen_sub hx))) rfl))) (fun x _ _ => ev_var rfl))) ea_nil) cd_lenL) rd_eqI).is ?_)) k a
    rw [List.length_map, en]
    exact congrArg D.bl (decide_eq_true rfl)
end Wt

namespace Wt
open PySem PySem.Spec PyProof.Rows L2
abbrev N_law_word : List Str := ["_law_seed", "_law_k", "_law_letters", "_law_more", "_law_tail", "_law_j"]
theorem sc_law_word : FnScope N_law_word ["_law_seed", "_law_k"] (defScope s_law_word) := ⟨rfl, rfl, rfl, by decide +kernel, rfl, by decide +kernel, by decide +kernel⟩
theorem d_law_word {P : Program} {w : World} {K : PySem.W.Frag} {mg : Str → Option Value} {base : Heap} {S W : Addr} {f : Addr} {fd : FuncData} (F : FunW K "_law_word" "_law_word" s_law_word f fd) (T : Txt K mg S W)
    (c1 : CalF P w K mg base "_law_drawn" 1 ["_law_cell", "_law_k"] (SpD F_drawn)) : FnOk P w K mg base CX0 2 f fd ["_law_seed", "_law_k"] (SpD F_word) := by
  obtain ⟨_, _, G1, M1, K1, B1⟩ := c1.ex
  refine F.ok sc_law_word (SpD.len (by rintro ds d ⟨sd, kk, h0, h1, rfl, rfl⟩; rfl)) (fun cdv A outer s0 H vs Q E hr h => ?_)
  have hu := hu_of hr
  obtain ⟨O, ds, d, hd, hm, ⟨sd, kk, h0, h1, rfl, rfl⟩, k⟩ := h
  refine ⟨_, PSs.nox (pss_cons (ps_set (i := 2) sc_law_word.nd rfl (Or.inr rfl) pe_str)
    (pss_cons (ps_set (i := 3) sc_law_word.nd rfl (Or.inr rfl) (pe_call G1 (hr.mono (by decide)) rfl M1 K1 B1 .nil pass0 (pa_cons (pv 0) (pa_cons pe_int pa_nil))))
    (pss_cons (ps_set (i := 4) sc_law_word.nd rfl (Or.inl rfl) (kJoin (K := K) pe_str (pe_lc (own := [("_law_j", 5)]) (g := (gName 5)) (tt := tYes) rfl sc_law_word.nd (pi_range1 (by rfl) T.range (pa_cons (pe_op op_mod (pv 3) pe_int) pa_nil)) (blkOk_by (own := [("_law_j", 5)]) (N := N_law_word) (sc := defScope s_law_word) (by decide +kernel)) (fun _ _ _ _ _ => (pg_name (i := 5) sc_law_word.nd rfl (Or.inl rfl))) (fun _ _ _ _ _ => pts_nil) (fun _ _ _ _ _ => (pe_ix ix_str (pv 2) (pe_op op_mod (pe_op op_add (pe_op op_fdiv (pv 3) pe_int) (pe_op op_mul pe_int (pv 5))) pe_int) (fun _ _ => rfl))))))
    (pss_one (ps_ret (pe_op op_add_str (pe_op op_add_str (pe_ix ix_str (pv 2) (pe_op op_mod (pe_op op_add (pv 0) (pe_op op_mul pe_int (pv 1))) pe_int) (fun _ _ => rfl)) (pe_ix ix_str pe_str (pe_op op_fdiv (pv 1) pe_int) (fun _ _ => rfl))) (pv 4))))))), ?_⟩
  have a : At O H [some (.int sd), some (.int kk), none, none, none, none] none (L2.start N_law_word vs) H := At.begin_ (N := N_law_word) hm
  have ll : letS.length ≤ 16000000 := by decide +kernel
  have lz : zqS.length ≤ 16000000 := by decide +kernel
  have b0 : 0 ≤ drawnF sd 700 % 7 := Int.emod_nonneg _ (by decide)
  have b1 : drawnF sd 700 % 7 < 7 := Int.emod_lt_of_pos _ (by decide)
  have et : (((drawnF sd 700 % 7).toNat : Nat) : Int) = drawnF sd 700 % 7 := Int.toNat_of_nonneg b0
  have e0 : Str.empty.length = 0 := rfl
  refine s_seq (s_asg (d := .str letS) hd (EvD.up ev_str) (by decide) (fun σ H1 a => ?_) a)
  refine s_seq (s_asg (d := .int (drawnF sd 700)) hd (EvD.up (ev_call (ea_cons (ev_var rfl) (ea_cons ev_int ea_nil)) ⟨sd, 700, by decide, by decide, rfl, rfl⟩)) (by decide) (fun σ H1 a => ?_) a)
  refine s_seq (s_asg (d := .str (Txt.join Str.empty (tailL sd))) hd (EvD.up (ev_join (a := Str.empty) (ss := tailL sd) ev_str ((EvN.toD (en_lcR (n := (drawnF sd 700 % 7).toNat) (fun _ => true) (fun j => .str (sg (letC ((drawnF sd 700 / 7 + 11 * (j : Int)) % 26)))) (ea_cons ((ev_op (ev_var rfl) ev_int (rd_ic (by decide))).is (congrArg D.int et.symm)) ea_nil) (by omega) (fun _ _ => et_yes) (fun i hi _ => ev_op (ev_var rfl) (ev_op (ev_op (ev_op (ev_var rfl) ev_int (rd_ic ⟨by decide, by decide⟩)) (ev_op ev_int (ev_var rfl) (rd_ic (.inl ⟨by decide, by decide⟩))) rd_ii) ev_int (rd_ic (by decide))) (rd_ixS ll (atI_toNat (Int.emod_nonneg _ (by decide)) (let_at (Int.emod_nonneg _ (by decide)) (Int.emod_lt_of_pos _ (by decide))).1))))).is ?_) ?_)) (by decide) (fun σ H1 a => ?_) a)
  · unfold tailL
    rw [List.filter_eq_self.mpr fun _ _ => rfl, List.map_map]
    rfl
  · have h1 := sum_le 1 (tailL sd) (fun x hx => by
      obtain ⟨j, _, e⟩ := List.mem_map.mp hx
      rw [← e]
      exact Nat.le_refl _)
    have h2 : (tailL sd).length ≤ 6 := by
      unfold tailL
      rw [List.length_map, List.length_range]
      omega
    rw [e0]
    omega
  · have ht := tail_len sd
    refine s_ret (d := .str (wordF sd kk)) hd (EvD.up (ev_op (ev_op (ev_op (ev_var rfl) (ev_op (ev_op (ev_var rfl) (ev_op ev_int (ev_var rfl) (rd_ic (.inl ⟨by decide, by decide⟩))) rd_ii) ev_int (rd_ic (by decide))) (rd_ixS ll (atI_toNat (Int.emod_nonneg _ (by decide)) (let_at (Int.emod_nonneg _ (by decide)) (Int.emod_lt_of_pos _ (by decide))).1))) (ev_op (x := .str zqS) ev_str (ev_op (ev_var rfl) ev_int (rd_ic ⟨by decide, by decide⟩)) (rd_ixS lz (atI_toNat (by omega) (zq_at (i := kk / 26) (by omega) (by omega)).1))) (rd_addS ?_)) (ev_var rfl) (rd_addS ?_))) k a
    · show (sg _).length + (sg _).length ≤ _
      rw [sg_len, sg_len]
      decide
    · show (sg _ ++ sg _).length + _ ≤ _
      rw [len_app, sg_len, sg_len]
      omega
abbrev N_law_called : List Str := ["_law_model_here", "_law_number", "_law_pairs", "_law_taken", "_law_turn", "_law_pick", "_law_some", "_law_words_here", "_law_noun", "_law_row", "_law_k"]
theorem sc_law_called : FnScope N_law_called ["_law_model_here", "_law_number"] (defScope s_law_called) := ⟨rfl, rfl, rfl, by decide +kernel, rfl, by decide +kernel, by decide +kernel⟩
theorem d_law_called {P : Program} {w : World} {K : PySem.W.Frag} {mg : Str → Option Value} {base : Heap} {S W : Addr} {f : Addr} {fd : FuncData} (F : FunW K "_law_called" "_law_called" s_law_called f fd) (T : Txt K mg S W)
    (c1 : CalF P w K mg base "_law_word" 2 ["_law_seed", "_law_k"] (SpD F_word)) : FnOk P w K mg base CX0 3 f fd ["_law_model_here", "_law_number"] (SpS F_called) := by
  obtain ⟨_, _, G1, M1, K1, B1⟩ := c1.ex
  refine F.ok sc_law_called (SpS.len (n := 2) (by rintro ds d ⟨m, n, tl, tok, rfl, rfl⟩; rfl)) (fun cdv A outer s0 H vs Q E hr h => ?_)
  have hu := hu_of hr
  have hu65 : (A.deeper (envOfC "_law_called" (defScope s_law_called) s0.heap.objs.size f cdv)).units + 65 < cLine := by have := hr.un; omega

  obtain ⟨O, ds, d, hd, hm, ⟨m, n, tl, tok, rfl, rfl⟩, k⟩ := h
  refine ⟨_, PSs.nox (pss_cons (ps_set (i := 2) sc_law_called.nd rfl (Or.inl rfl) (pe_lst (pa_cons (pe_tup (pa_cons pe_int (pa_cons pe_int pa_nil))) (pa_cons (pe_tup (pa_cons pe_int (pa_cons pe_int pa_nil))) (pa_cons (pe_tup (pa_cons pe_int (pa_cons pe_int pa_nil))) (pa_cons (pe_tup (pa_cons pe_int (pa_cons pe_int pa_nil))) (pa_cons (pe_tup (pa_cons pe_int (pa_cons pe_int pa_nil))) (pa_cons (pe_tup (pa_cons pe_int (pa_cons pe_int pa_nil))) (pa_cons (pe_tup (pa_cons pe_int (pa_cons pe_int pa_nil))) (pa_cons (pe_tup (pa_cons pe_int (pa_cons pe_int pa_nil))) (pa_cons (pe_tup (pa_cons pe_int (pa_cons pe_int pa_nil))) (pa_cons (pe_tup (pa_cons pe_int (pa_cons pe_int pa_nil))) pa_nil))))))))))))
    (pss_cons (ps_setLc (i := 3) (own := [("_law_row", 9)]) (g := (gName 9)) (tt := tYes) rfl sc_law_called.nd rfl rfl (sw_true rfl rfl rfl (by decide +kernel)) (kList (K := K) (pe_dget hu (pv 0) pe_str (fun _ _ => rfl))) (blkOk_by (own := [("_law_row", 9)]) (N := N_law_called) (sc := defScope s_law_called) (by decide +kernel)) (fun _ _ _ _ _ => (pg_name (i := 9) sc_law_called.nd rfl (Or.inl rfl))) (fun _ _ _ _ _ => pts_nil) (fun _ _ _ _ _ => (pe_tup (pa_cons (pe_ix (kIxT (K := K)) (pv 9) pe_int (fun _ _ => rfl)) (pa_cons (pe_callB (kSortedT (K := K)) (by rfl) T.sorted (by decide +kernel) (pa_cons (pe_ix (kIxT (K := K)) (pv 9) pe_int (fun _ _ => rfl)) pa_nil)) pa_nil)))))
    (pss_cons (ps_for PassesOwn.never rfl (pi_range1 (by rfl) T.range (pa_cons pe_int pa_nil)) (pg_name (i := 4) sc_law_called.nd rfl (Or.inl rfl)) (pss_cons (ps_set (i := 5) sc_law_called.nd rfl (Or.inl rfl) (pe_op op_mod (pe_op op_add (pv 1) (pv 4)) pe_int))
    (pss_cons (ps_set (i := 6) sc_law_called.nd rfl (Or.inl rfl) (pe_ix (kIxL (K := K)) (pe_op op_cat (pe_lst (pa_cons (pe_tup pa_nil) (pa_cons (pe_tup (pa_cons pe_int pa_nil)) (pa_cons (pe_tup (pa_cons pe_int pa_nil)) (pa_cons (pe_tup (pa_cons pe_int pa_nil)) (pa_cons (pe_tup (pa_cons pe_int pa_nil)) (pa_cons (pe_tup (pa_cons pe_int pa_nil)) pa_nil))))))) (pv 2)) (pe_op op_fdiv (pv 5) pe_int) (fun _ _ => rfl)))
    (pss_cons (ps_setLc (i := 7) (own := [("_law_k", 10)]) (g := (gName 10)) (tt := tYes) rfl sc_law_called.nd rfl rfl (sw_true rfl rfl rfl (by decide +kernel)) (kTupI (K := K) (pv 6)) (blkOk_by (own := [("_law_k", 10)]) (N := N_law_called) (sc := defScope s_law_called) (by decide +kernel)) (fun _ _ _ _ _ => (pg_name (i := 10) sc_law_called.nd rfl (Or.inl rfl))) (fun _ _ _ _ _ => pts_nil) (fun _ _ _ _ _ => (pe_call G1 (hr.mono (by decide)) rfl M1 K1 B1 .nil pass0 (pa_cons (pe_dget hu (pv 0) pe_str (fun _ _ => rfl)) (pa_cons (pe_op op_add pe_int (pv 10)) pa_nil)))))
    (pss_cons (ps_set (i := 8) sc_law_called.nd rfl (Or.inl rfl) (pe_call G1 (hr.mono (by decide)) rfl M1 K1 B1 .nil pass0 (pa_cons (pe_dget hu (pv 0) pe_str (fun _ _ => rfl)) (pa_cons (pe_op op_add pe_int (pe_op op_mod (pv 5) pe_int)) pa_nil))))
    (pss_one (ps_if (pt_cmpR (kNotInD (K := K) hu65) (pe_tup (pa_cons (pv 8) (pa_cons (pe_callB (kSorted (K := K)) (by rfl) T.sorted (by decide +kernel) (pa_cons (pv 7) pa_nil)) pa_nil))) (pv 3) (by rfl)) (pss_one ps_break) pss_nil)))))))
    (pss_one (ps_ret (pe_tup (pa_cons (pv 8) (pa_cons (pe_callTy (kTupOf (K := K)) (by rfl) T.tuple (by decide +kernel) (pa_cons (kSlStep (K := K) (pv 7) (pe_ix (kIxL (K := K)) (pe_lst (pa_cons pe_int (pa_cons (pe_un un_neg pe_int) pa_nil))) (pe_op op_mod (pe_op op_fdiv (pv 1) pe_int) pe_int) (fun _ _ => rfl))) pa_nil)) pa_nil)))))))), ?_⟩
  have a : At O H [some m.d, some (.int n), none, none, none, none, none, none, none, none, none] none (L2.start N_law_called vs) H := At.begin_ (N := N_law_called) hm
  refine s_seq (s_asg (d := .lst ((someL.drop 6).map fun l => .tup (l.map .int))) hd (EvD.up (EvN.toD (en_lst (ea_cons (ev_tup (ea_cons ev_int (ea_cons ev_int ea_nil)) (by show 2 ≤ 100000; decide)) (ea_cons (ev_tup (ea_cons ev_int (ea_cons ev_int ea_nil)) (by show 2 ≤ 100000; decide)) (ea_cons (ev_tup (ea_cons ev_int (ea_cons ev_int ea_nil)) (by show 2 ≤ 100000; decide)) (ea_cons (ev_tup (ea_cons ev_int (ea_cons ev_int ea_nil)) (by show 2 ≤ 100000; decide)) (ea_cons (ev_tup (ea_cons ev_int (ea_cons ev_int ea_nil)) (by show 2 ≤ 100000; decide)) (ea_cons (ev_tup (ea_cons ev_int (ea_cons ev_int ea_nil)) (by show 2 ≤ 100000; decide)) (ea_cons (ev_tup (ea_cons ev_int (ea_cons ev_int ea_nil)) (by show 2 ≤ 100000; decide)) (ea_cons (ev_tup (ea_cons ev_int (ea_cons ev_int ea_nil)) (by show 2 ≤ 100000; decide)) (ea_cons (ev_tup (ea_cons ev_int (ea_cons ev_int ea_nil)) (by show 2 ≤ 100000; decide)) (ea_cons (ev_tup (ea_cons ev_int (ea_cons ev_int ea_nil)) (by show 2 ≤ 100000; decide)) ea_nil)))))))))) (by show 10 ≤ 100000; decide)))) (by decide) (fun σ H1 a => ?_) a)
  refine s_seq (s_asg (d := .lst ((m.things.map fun t => (t.noun, srt t.adjs)).map nlD)) hd (EvD.up ((EvN.toD (en_map Thing.d m.things (fun t ρ => ρ.set 9 (some t.d)) (fun t => nlD (t.noun, srt t.adjs)) (ev_things (ev_var rfl)) (Nat.lt_of_le_of_lt tl (by decide)) (fun _ _ => tg_name) (fun t ht => ev_tup (ea_cons (ev_op (x := t.d) (ev_var rfl) ev_int (rd_ixT (d := .str t.noun) rfl)) (ea_cons (EvN.toD (en_cb (ea_cons (ev_op (x := t.d) (ev_var rfl) ev_int (rd_ixT (d := .tup (t.adjs.map .str)) rfl)) ea_nil) (cn_sortedT (by have := (tok t ht).few; omega)))) ea_nil)) (by show 2 ≤ 100000; decide)))).is ?_)) (by decide) (fun σ H1 a => ?_) a)
  · rw [List.map_map]
    rfl
  refine s_seq (s_forRA (n := 64) hd (ea_cons ev_int ea_nil) (by decide) (fun i σ H1 => At O H [some m.d, some (.int n), some (.lst ((someL.drop 6).map fun l => .tup (l.map .int))), some (.lst ((m.things.map fun t => (t.noun, srt t.adjs)).map nlD)), none, none, none, none, none, none, none] none σ H1 ∧ (i = 0 ∨ ∃ (noun : Str) (ws : List Str), (WordOk noun ∧ ws.length ≤ 2 ∧ ∀ x, x ∈ ws → WordOk x) ∧ At O H [some m.d, some (.int n), some (.lst ((someL.drop 6).map fun l => .tup (l.map .int))), some (.lst ((m.things.map fun t => (t.noun, srt t.adjs)).map nlD)), none, none, none, some (.lst (ws.map .str)), some (.str noun), none, none] none σ H1)) (fun σ H1 => ∃ (noun : Str) (ws : List Str), (WordOk noun ∧ ws.length ≤ 2 ∧ ∀ x, x ∈ ws → WordOk x) ∧ At O H [some m.d, some (.int n), some (.lst ((someL.drop 6).map fun l => .tup (l.map .int))), some (.lst ((m.things.map fun t => (t.noun, srt t.adjs)).map nlD)), none, none, none, some (.lst (ws.map .str)), some (.str noun), none, none] none σ H1) (fun σ H1 a => ⟨a, .inl rfl⟩) (fun hz i σ H1 hi z => ?_) (fun σ H1 z => z.2.resolve_left (by decide)) (fun σ H1 z => ?_) a)
  · have a := z.1.setI (j := 4) (z := (i : Int))
    have b0 : 0 ≤ (n + (i : Int)) % 64 := Int.emod_nonneg _ (by decide)
    have b1 : (n + (i : Int)) % 64 < 64 := Int.emod_lt_of_pos _ (by decide)
    have c0 : 0 ≤ (n + (i : Int)) % 64 % 4 := Int.emod_nonneg _ (by decide)
    have c1 : (n + (i : Int)) % 64 % 4 < 4 := Int.emod_lt_of_pos _ (by decide)
    refine s_seq (s_asg (d := .int ((n + (i : Int)) % 64)) hd (EvD.up (ev_op (ev_op (ev_var rfl) (ev_var rfl) rd_ii) ev_int (rd_ic (by decide)))) (by decide) (fun σ H1 a => ?_) a)
    generalize (n + (i : Int)) % 64 = pk at b0 b1 c0 c1 a
    obtain ⟨l, hl, el⟩ := atI_in (fun l : List Int => .tup (l.map .int)) someL (i := pk / 4) (by omega) (by show _ < (16 : Int); omega)
    obtain ⟨l2, l4⟩ := some_ok l hl
    refine s_seq (s_asg (d := .tup (l.map .int)) hd (EvD.up (ev_op (EvN.toD (en_op (EvN.toD (en_lst (ea_cons (ev_tup ea_nil (Nat.zero_le _)) (ea_cons (ev_tup (ea_cons ev_int ea_nil) (by show 1 ≤ 100000; decide)) (ea_cons (ev_tup (ea_cons ev_int ea_nil) (by show 1 ≤ 100000; decide)) (ea_cons (ev_tup (ea_cons ev_int ea_nil) (by show 1 ≤ 100000; decide)) (ea_cons (ev_tup (ea_cons ev_int ea_nil) (by show 1 ≤ 100000; decide)) (ea_cons (ev_tup (ea_cons ev_int ea_nil) (by show 1 ≤ 100000; decide)) ea_nil)))))) (by show 6 ≤ 100000; decide))) (ev_var rfl) (rn_cat (by show 16 ≤ 100000; decide)))) (ev_op (ev_var rfl) ev_int (rd_ic ⟨by decide, by decide⟩)) (rd_ixL (show atI (someL.map fun l => D.tup (l.map .int)) (pk / 4) = some (.tup (l.map .int)) from el)))) (by decide) (fun σ H1 a => ?_) a)
    have wok : ∀ x, x ∈ l.map (fun k => wordF m.seed (60 + k)) → WordOk x := fun x hx => by
      obtain ⟨k, hk, e⟩ := List.mem_map.mp hx
      rw [← e]
      have := l4 k hk
      exact word_ok (by omega) (by omega)
    refine s_seq (s_asg (d := .lst ((l.map fun k => wordF m.seed (60 + k)).map .str)) hd (EvD.up ((EvN.toD (en_lcT D.int l (fun k ρ => ρ.set 10 (some (.int k))) (fun _ => true) (fun k => .str (wordF m.seed (60 + k))) (ev_var rfl) (Nat.lt_of_le_of_lt l2 (by decide)) (fun _ _ => tg_name) (fun _ _ => et_yes) (fun k hk _ => ev_call (ea_cons (ev_seed (ev_var rfl)) (ea_cons (ev_op ev_int (ev_var rfl) rd_ii) ea_nil)) ⟨m.seed, 60 + k, by have := l4 k hk; omega, by have := l4 k hk; omega, rfl, rfl⟩))).is ?_)) (by decide) (fun σ H1 a => ?_) a)
    · rw [List.filter_eq_self.mpr fun _ _ => rfl, List.map_map]
      rfl
    have wl : (l.map fun k => wordF m.seed (60 + k)).length ≤ 2 := by rw [List.length_map]; exact l2
    generalize (l.map fun k => wordF m.seed (60 + k)) = ws at a wok wl
    have nok : WordOk (wordF m.seed (70 + pk % 4)) := word_ok (by omega) (by omega)
    refine s_seq (s_asg (d := .str (wordF m.seed (70 + pk % 4))) hd (EvD.up (ev_call (ea_cons (ev_seed (ev_var rfl)) (ea_cons (ev_op ev_int (ev_op (ev_var rfl) ev_int (rd_ic (by decide))) rd_ii) ea_nil)) ⟨m.seed, 70 + pk % 4, by omega, by omega, rfl, rfl⟩)) (by decide) (fun σ H1 a => ?_) a)
    generalize wordF m.seed (70 + pk % 4) = noun at a nok
    obtain ⟨c, hc⟩ := rd_notInNl (K := K) (p := (noun, srt ws)) (l := m.things.map fun t => (t.noun, srt t.adjs)) ⟨nok.2.2, fun x hx => (wok x ((srt_perm _).mem_iff.mp hx)).2.2⟩ (fun p hp => by
      obtain ⟨t, ht, e⟩ := List.mem_map.mp hp
      rw [← e]
      exact ⟨(tok t ht).noun.2.2, fun x hx => ((tok t ht).adjs x ((srt_perm _).mem_iff.mp hx)).2.2⟩)
    have full : ∀ {σ H1}, At O H (((((([some m.d, some (.int n), some (.lst ((someL.drop 6).map fun l => .tup (l.map .int))), some (.lst ((m.things.map fun t => (t.noun, srt t.adjs)).map nlD)), none, none, none, none, none, none, none] : Env).set 4 (some (.int (i : Int)))).set 5 (some (.int pk))).set 6 (some (.tup (l.map .int)))).set 7 (some (.lst (ws.map .str)))).set 8 (some (.str noun))) none σ H1 → At O H [some m.d, some (.int n), some (.lst ((someL.drop 6).map fun l => .tup (l.map .int))), some (.lst ((m.things.map fun t => (t.noun, srt t.adjs)).map nlD)), none, none, none, some (.lst (ws.map .str)), some (.str noun), none, none] none σ H1 := fun a => a.weak (.keep (.keep (.keep (.keep (.drop (.drop (.drop (.keep (.keep (.keep (.keep .nil)))))))))))
    refine s_if (b := c) hd (et_test (ev_op (x := nlD (noun, srt ws)) (ev_tup (ea_cons (ev_var rfl) (ea_cons (EvN.toD (en_cb (ea_cons (ev_var rfl) ea_nil) (cn_sorted (by omega)))) ea_nil)) (by show 2 ≤ 100000; decide)) (ev_var rfl) hc)).up (fun hb σ H1 a => ?_) (fun hb σ H1 a => ?_) a
    · exact hz σ H1 ⟨noun, ws, ⟨nok, wl, wok⟩, full a⟩
    · exact ⟨(full a).weak (.keep (.keep (.keep (.keep (.keep (.keep (.keep (.drop (.drop (.keep (.keep .nil))))))))))), .inr ⟨noun, ws, ⟨nok, wl, wok⟩, full a⟩⟩
  · obtain ⟨noun, ws, ⟨h1, h2, h3⟩, a⟩ := z
    have b0 : 0 ≤ n / 64 % 2 := Int.emod_nonneg _ (by decide)
    have b1 : n / 64 % 2 < 2 := Int.emod_lt_of_pos _ (by decide)
    obtain ⟨st, hst, est⟩ := atI_in D.int [1, -1] b0 (by simpa using b1)
    have hs : st = 1 ∨ st = -1 := by simpa using hst
    refine s_ret (d := .tup [.str noun, .tup ((if st = 1 then ws else ws.reverse).map .str)]) hd (EvD.up (ev_tup (ea_cons (ev_var rfl) (ea_cons (ev_cb (ea_cons ((EvN.toD (en_slStep (ev_var rfl) (ev_op (EvN.toD (ds := [1, -1].map .int) (en_lst (ea_cons ev_int (ea_cons (ev_neg ev_int) ea_nil)) (by show 2 ≤ 100000; decide))) (ev_op (ev_op (ev_var rfl) ev_int (rd_ic ⟨by decide, by decide⟩)) ev_int (rd_ic (by decide))) (rd_ixL est)) hs)).is ?_) ea_nil) cd_tupL) ea_nil)) (by show 2 ≤ 100000; decide))) (fun v H2 s2 m2 => k v H2 _ ⟨noun, _, rfl, h1, ?_, ?_⟩ s2 m2) a
    · by_cases q : st = 1
      · rw [if_pos q, if_pos q]
      · rw [if_neg q, if_neg q, List.map_reverse]
    · split
      · exact h2
      · rw [List.length_reverse]; exact h2
    · split
      · exact h3
      · exact fun x hx => h3 x (List.mem_reverse.mp hx)
end Wt

namespace Wt
open PySem PySem.Spec PyProof.Rows L2
abbrev N_law_add_thing : List Str := ["_law_model_here", "_law_number", "_law_many", "_law_way", "_law_traits", "_law_holders_here", "_law_places", "_law_where", "_law_pick", "_law_row", "_law_noun", "_law_words_here"]
theorem sc_law_add_thing : FnScope N_law_add_thing ["_law_model_here", "_law_number"] (defScope s_law_add_thing) := ⟨rfl, rfl, rfl, by decide +kernel, rfl, by decide +kernel, by decide +kernel⟩
theorem d_law_add_thing {P : Program} {w : World} {K : PySem.W.Frag} {mg : Str → Option Value} {base : Heap} {S W : Addr} {f : Addr} {fd : FuncData} (F : FunW K "_law_add_thing" "_law_add_thing" s_law_add_thing f fd) (T : Txt K mg S W)
    (c1 : CalF P w K mg base "_law_called" 3 ["_law_model_here", "_law_number"] (SpS F_called))
    (c2 : CalF P w K mg base "_law_holders" 1 ["_law_model_here"] (SpN F_lholders))
    (c3 : CalF P w K mg base "_law_word" 2 ["_law_seed", "_law_k"] (SpD F_word)) : FnOk P w K mg base CX0 4 f fd ["_law_model_here", "_law_number"] (SpAddT) := by
  obtain ⟨_, _, G1, M1, K1, B1⟩ := c1.ex
  obtain ⟨_, _, G2, M2, K2, B2⟩ := c2.ex
  obtain ⟨_, _, G3, M3, K3, B3⟩ := c3.ex
  refine F.ok sc_law_add_thing (fun vs H Q E h => by obtain ⟨C, m, n, ms, mi, hl, rfl, k⟩ := h; rfl) (fun cdv A outer s0 H vs Q E hr h => ?_)
  have hu := hu_of hr

  obtain ⟨C, m, n, ms, mi, hl, rfl, k⟩ := h
  refine ⟨_, PSs.nox (pss_cons (ps_set (i := 2) sc_law_add_thing.nd rfl (Or.inl rfl) (pe_callB (kLen (K := K)) (by rfl) T.len (by decide +kernel) (pa_cons (pe_dget hu (pv 0) pe_str (fun _ _ => rfl)) pa_nil)))
    (pss_cons (ps_asg (pe_call G1 (hr.mono (by decide)) rfl M1 K1 B1 .nil pass0 (pa_cons (pv 0) (pa_cons (pe_op op_fdiv (pv 1) pe_int) pa_nil))) (kTupG (K := K) (by rfl) (pgs_cons (pg_name (i := 10) sc_law_add_thing.nd rfl (Or.inl rfl)) (pgs_cons (pg_name (i := 11) sc_law_add_thing.nd rfl (Or.inl rfl)) pgs_nil))))
    (pss_cons (ps_set (i := 3) sc_law_add_thing.nd rfl (Or.inl rfl) (pe_op op_mod (pv 1) pe_int))
    (pss_cons (ps_set (i := 4) sc_law_add_thing.nd rfl (Or.inl rfl) (pe_ix (kIxL (K := K)) (pe_lst (pa_cons (pe_lst pa_nil) (pa_cons (pe_lst (pa_cons pe_str pa_nil)) (pa_cons (pe_lst (pa_cons pe_str (pa_cons pe_str pa_nil))) (pa_cons (pe_lst (pa_cons pe_str pa_nil)) (pa_cons (pe_lst (pa_cons pe_str pa_nil)) (pa_cons (pe_lst (pa_cons pe_str pa_nil)) (pa_cons (pe_lst (pa_cons pe_str pa_nil)) (pa_cons (pe_lst pa_nil) pa_nil))))))))) (pv 3) (fun _ _ => rfl)))
    (pss_cons (ps_set (i := 4) sc_law_add_thing.nd rfl (Or.inl rfl) (pe_op op_cat (pv 4) (pe_op op_rep (pe_lst (pa_cons pe_str pa_nil)) (pe_callTy call_int1 (by rfl) T.int (by decide +kernel) (pa_cons (pe_and (pe_cmpR (kIn (K := K)) (pv 3) (pe_tup (pa_cons pe_int (pa_cons pe_int (pa_cons pe_int pa_nil)))) (by rfl)) (pe_one (pe_cmpR op_eq (pe_op op_mod (pe_op op_fdiv (pv 1) pe_int) pe_int) pe_int (by rfl)))) pa_nil)))))
    (pss_cons (ps_set (i := 4) sc_law_add_thing.nd rfl (Or.inl rfl) (pe_op op_cat (pe_op op_cat (pv 4) (pe_op op_rep (pe_lst (pa_cons pe_str pa_nil)) (pe_callTy call_int1 (by rfl) T.int (by decide +kernel) (pa_cons (pe_cmpR op_eq (pe_op op_mod (pe_op op_fdiv (pv 1) pe_int) pe_int) pe_int (by rfl)) pa_nil)))) (pe_op op_rep (pe_lst (pa_cons pe_str pa_nil)) (pe_callTy call_int1 (by rfl) T.int (by decide +kernel) (pa_cons (pe_cmpR op_eq (pe_op op_mod (pe_op op_fdiv (pv 1) pe_int) pe_int) pe_int (by rfl)) pa_nil)))))
    (pss_cons (ps_set (i := 5) sc_law_add_thing.nd rfl (Or.inl rfl) (pe_call G2 (hr.mono (by decide)) rfl M2 K2 B2 .nil pass0 (pa_cons (pv 0) pa_nil)))
    (pss_cons (ps_set (i := 6) sc_law_add_thing.nd rfl (Or.inl rfl) (pe_dget hu (pv 0) pe_str (fun _ _ => rfl)))
    (pss_cons (ps_set (i := 7) sc_law_add_thing.nd rfl (Or.inl rfl) (pe_tup (pa_cons pe_str (pa_cons (pe_ix (kIxT (K := K)) (pe_ix (kIxL (K := K)) (pv 6) (pe_op op_mod (pe_op op_fdiv (pv 1) pe_int) (pe_callB (kLen (K := K)) (by rfl) T.len (by decide +kernel) (pa_cons (pv 6) pa_nil))) (fun _ _ => rfl)) pe_int (fun _ _ => rfl)) pa_nil))))
    (pss_cons (ps_set (i := 8) sc_law_add_thing.nd rfl (Or.inl rfl) (pe_op op_mod (pe_op op_fdiv (pv 1) pe_int) pe_int))
    (pss_cons (ps_if (PW.pt (pw_and (pt_cmpR op_lt (pv 8) pe_int (by rfl)) (pw_and1 (pt_cmpR (kNeD (K := K) hr.units) (pv 5) (pe_lst pa_nil) (by rfl))))) (pss_one (ps_set (i := 7) sc_law_add_thing.nd rfl (Or.inl rfl) (pe_ix (kIxL (K := K)) (pv 5) (pe_op op_mod (pe_op op_fdiv (pv 1) pe_int) (pe_callB (kLen (K := K)) (by rfl) T.len (by decide +kernel) (pa_cons (pv 5) pa_nil))) (fun _ _ => rfl)))) (pss_one (ps_if (pt_cmpR op_gt (pv 8) pe_int (by rfl)) (pss_one (ps_set (i := 7) sc_law_add_thing.nd rfl (Or.inl rfl) (pe_ix (kIxL (K := K)) (pe_lst (pa_cons (pe_tup (pa_cons pe_str pa_nil)) (pa_cons (pe_tup (pa_cons pe_str pa_nil)) pa_nil))) (pe_callTy call_int1 (by rfl) T.int (by decide +kernel) (pa_cons (pe_and (pe_cmpR op_eq (pv 8) pe_int (by rfl)) (pe_one (pe_cmpR op_eq (pe_op op_mod (pe_op op_fdiv (pv 1) pe_int) pe_int) pe_int (by rfl)))) pa_nil)) (fun _ _ => rfl)))) pss_nil)))
    (pss_cons (ps_set (i := 9) sc_law_add_thing.nd rfl (Or.inl rfl) (pe_tup (pa_cons (pe_call G3 (hr.mono (by decide)) rfl M3 K3 B3 .nil pass0 (pa_cons (pe_dget hu (pv 0) pe_str (fun _ _ => rfl)) (pa_cons (pe_op op_add pe_int (pv 2)) pa_nil))) (pa_cons (pv 10) (pa_cons (pv 11) (pa_cons (pv 7) (pa_cons (pe_callTy (kTupOf (K := K)) (by rfl) T.tuple (by decide +kernel) (pa_cons (pe_callB (kSorted (K := K)) (by rfl) T.sorted (by decide +kernel) (pa_cons (pv 4) pa_nil)) pa_nil)) pa_nil)))))))
    (pss_one (ps_expr (pe_bm PySem.F.plainAttrs_list PySem.F.slot_list_append PySem.F.type_list_append mt_append (pe_dget hu (pv 0) pe_str (fun _ _ => rfl)) (pa_cons (pv 9) pa_nil)))))))))))))))), ?_⟩
  have tl := mi.tl
  have hpl := mi.pl8
  have rz : Rz mt [some m.d, some (.int n), none, none, none, none, none, none, none, none, none, none] (L2.start N_law_add_thing [.ref C.mo, .int n]) H := (RzL.on ms.dm (.on (.int n) (.no (.no (.no (.no (.no (.no (.no (.no (.no (.no .nil)))))))))))).rz
  try dsimp only
  refine u_seq (u_asg (d := .int (m.things.length : Int)) ((ev_cb (ea_cons (ev_things (ev_var rfl)) ea_nil) cd_lenL).is (by rw [List.length_map])) rz fun v2 H2 s2 m2 rz => ?_)
  try dsimp only
  refine u_seq (u_call2 (ea_cons (ev_var rfl) (ea_cons (ev_op (ev_var rfl) ev_int (rd_ic ⟨by decide, by decide⟩)) ea_nil)) ⟨m, n / 7, tl, mi.tok, rfl, rfl⟩ rz fun noun adjs x y H3 hno had hadj s3 mx my rz => ?_)
  try dsimp only
  refine u_seq (u_asg (d := .int (n % 8)) (ev_op (ev_var rfl) ev_int (rd_ic (by decide))) rz fun v3 H4 s4 m3 rz => ?_)
  obtain ⟨l, hlb, el⟩ := atI_in (fun l : List Str => .lst (l.map .str)) baseL (i := n % 8) (Int.emod_nonneg _ (by decide)) (Int.emod_lt_of_pos _ (by decide))
  try dsimp only
  refine u_seq (u_asg (d := .lst (l.map .str)) (ev_op (EvN.toD (ds := baseL.map fun l => .lst (l.map .str)) (en_lst (ea_cons (EvN.toD (en_lst ea_nil (Nat.zero_le _))) (ea_cons (EvN.toD (en_lst (ea_cons ev_str ea_nil) (by show 1 ≤ 100000; decide))) (ea_cons (EvN.toD (en_lst (ea_cons ev_str (ea_cons ev_str ea_nil)) (by show 2 ≤ 100000; decide))) (ea_cons (EvN.toD (en_lst (ea_cons ev_str ea_nil) (by show 1 ≤ 100000; decide))) (ea_cons (EvN.toD (en_lst (ea_cons ev_str ea_nil) (by show 1 ≤ 100000; decide))) (ea_cons (EvN.toD (en_lst (ea_cons ev_str ea_nil) (by show 1 ≤ 100000; decide))) (ea_cons (EvN.toD (en_lst (ea_cons ev_str ea_nil) (by show 1 ≤ 100000; decide))) (ea_cons (EvN.toD (en_lst ea_nil (Nat.zero_le _))) ea_nil)))))))) (by show 8 ≤ 100000; decide))) (ev_var rfl) (rd_ixL el)) rz fun v4 H5 s5 m4 rz => ?_)
  have l8 : l.length ≤ 2 := by
    have q : baseL.all (fun l => decide (l.length ≤ 2)) = true := by decide +kernel
    exact of_decide_eq_true (List.all_eq_true.mp q l hlb)
  have ifl : ∀ (b : Bool) (x : Str), (if b then [x] else []).length ≤ 1 := fun b x => by cases b <;> simp
  have iflD : ∀ (b : Bool) (x : D), (if b then [x] else []).length ≤ 1 := fun b x => by cases b <;> simp
  generalize hb1 : (decide (n % 8 ∈ ([1, 2, 3] : List Int)) && decide (n / 8 % 2 = 0)) = b1
  try dsimp only
  refine u_seq (u_asg (d := .lst ((l ++ if b1 then ([("shut" : Str)] : List Str) else []).map .str)) ((EvN.toD (en_op (ev_var rfl) (EvN.toD (en_repB (ds := [.str _]) (EvN.toD (en_lst (ea_cons ev_str ea_nil) (by show 1 ≤ 100000; decide))) ((ev_andV (ev_op (ev_var rfl) (ev_tup (ds := [1, 2, 3].map .int) (ea_cons ev_int (ea_cons ev_int (ea_cons ev_int ea_nil))) (by show 3 ≤ 100000; decide)) (rd_inTI (is := [1, 2, 3]))) (fun _ => (ev_op (ev_op (ev_op (ev_var rfl) ev_int (rd_ic ⟨by decide, by decide⟩)) ev_int (rd_ic (by decide))) ev_int rd_eqI))).is (congrArg D.bl hb1)) (by show 1 ≤ 100; decide))) (rn_cat ?_))).is ?_) rz fun v5 H6 s6 m5 rz => ?_)
  · rw [List.length_map]
    have := iflD b1 (.str "shut")
    omega
  · rw [List.map_append, strs_if]
  generalize hb2 : decide (n / 16 % 4 = 1) = b2
  generalize hb3 : decide (n / 64 % 6 = 1) = b3
  try dsimp only
  refine u_seq (u_asg (d := .lst ((trF l b1 b2 b3).map .str)) ((EvN.toD (en_op (EvN.toD (en_op (ev_var rfl) (EvN.toD (en_repB (ds := [.str _]) (EvN.toD (en_lst (ea_cons ev_str ea_nil) (by show 1 ≤ 100000; decide))) ((ev_op (ev_op (ev_op (ev_var rfl) ev_int (rd_ic ⟨by decide, by decide⟩)) ev_int (rd_ic (by decide))) ev_int rd_eqI).is (congrArg D.bl hb2)) (by show 1 ≤ 100; decide))) (rn_cat ?_))) (EvN.toD (en_repB (ds := [.str _]) (EvN.toD (en_lst (ea_cons ev_str ea_nil) (by show 1 ≤ 100000; decide))) ((ev_op (ev_op (ev_op (ev_var rfl) ev_int (rd_ic ⟨by decide, by decide⟩)) ev_int (rd_ic (by decide))) ev_int rd_eqI).is (congrArg D.bl hb3)) (by show 1 ≤ 100; decide))) (rn_cat ?_))).is ?_) rz fun v6 H7 s7 m6 rz => ?_)
  · rw [List.length_map, List.length_append]
    have h1 := ifl b1 "shut"
    have h2 := iflD b2 (.str "lit")
    omega
  · rw [List.length_append, List.length_map, List.length_append]
    have h1 := ifl b1 "shut"
    have h2 := iflD b2 (.str "lit")
    have h3 := iflD b3 (.str "fixed")
    omega
  · unfold trF
    rw [strs_if, strs_if]
    simp only [List.map_append]
  obtain ⟨t8, tbx, tso, tnd⟩ := tr_ok hlb b1 b2 b3
  generalize trF l b1 b2 b3 = tr at m6 rz t8 tbx tso tnd
  have hhl := holders_len tl
  try dsimp only
  refine u_seq (u_asg (d := .lst ((holdersF m).map Wh.d)) (EvN.toD (en_call (ea_cons (ev_var rfl) ea_nil) ⟨m, tl, rfl, rfl⟩)) rz fun v7 H8 s8 m7 rz => ?_)
  try dsimp only
  refine u_seq (u_asg (d := .lst (m.places.map placeD)) (ev_places (ev_var rfl)) rz fun v8 H9 s9 m8 rz => ?_)
  obtain ⟨p, hp, ep⟩ := atI_mod placeD m.places mi.p1 (n / 400) (L := (m.places.map placeD).length) (List.length_map ..)
  have hpos : (0 : Int) < ((m.places.map placeD).length : Int) := by
    rw [List.length_map]
    omega
  have hpn : p.1 ∈ m.pnames := List.mem_map.mpr ⟨p, hp, rfl⟩
  try dsimp only
  refine u_seq (u_asg (d := (Wh.at_ p.1).d) (ev_at (ev_op (ev_op (ev_var rfl) (ev_op (ev_op (ev_var rfl) ev_int (rd_ic ⟨by decide, by decide⟩)) (ev_cb (ea_cons (ev_var rfl) ea_nil) cd_lenL) (rd_ic hpos)) (rd_ixL ep)) ev_int (rd_ixT (d := .str p.1) rfl))) rz fun v9 H10 s10 m9 rz => ?_)
  try dsimp only
  refine u_seq (u_asg (d := .int (n / 3000 % 8)) (ev_op (ev_op (ev_var rfl) ev_int (rd_ic ⟨by decide, by decide⟩)) ev_int (rd_ic (by decide))) rz fun v10 H11 s11 m10 rz => ?_)
  have sA := ((((((((s2.trans s3).trans s4).trans s5).trans s6).trans s7).trans s8).trans s9).trans s10).trans s11
  try dsimp only
  refine u_seq (u_thenZ (fun σ' H' => ∃ w, (WhI m m.things w ∧ w.ok = true) ∧ σ'[0]? = some (some (.ref C.mo)) ∧ Same H H' ∧ Rz mt [some m.d, some (.int n), some (.int (m.things.length : Int)), none, some (.lst (tr.map .str)), none, none, some w.d, none, none, some (.str noun), some (.tup (adjs.map .str))] σ' H') (fun hz => ?_) (fun σ' H' z => ?_))
  · have wk : ∀ {ρ : Env} {w : Wh} {σ' : L2.St} {H' : Hp}, Rz mt [some m.d, some (.int n), some (.int (m.things.length : Int)), some (.int (n % 8)), some (.lst (tr.map .str)), some (.lst ((holdersF m).map Wh.d)), some (.lst (m.places.map placeD)), some w.d, some (.int (n / 3000 % 8)), none, some (.str noun), some (.tup (adjs.map .str))] σ' H' → Rz mt [some m.d, some (.int n), some (.int (m.things.length : Int)), none, some (.lst (tr.map .str)), none, none, some w.d, none, none, some (.str noun), some (.tup (adjs.map .str))] σ' H' := fun z => Rz.weak z (.keep (.keep (.keep (.drop (.keep (.drop (.drop (.keep (.drop (.keep (.keep (.keep .nil))))))))))))
    try dsimp only
    refine u_if (b := decide (n / 3000 % 8 < 4) && !(holdersF m).isEmpty) (et_and (et_test (ev_op (ev_var rfl) ev_int rd_ib)) (fun _ => et_test (ev_op (ev_var rfl) (EvN.toD (en_lst ea_nil (Nat.zero_le _))) (rd_neNilW fun w hw => (holder_wi mi hw).2)))) rz (fun hb H12 s12 rz => ?_) (fun hb H12 s12 rz => ?_)
    · have hne : holdersF m ≠ [] := fun z => by
        have q := (Bool.and_eq_true_iff.mp hb).2
        rw [z] at q
        cases q
      obtain ⟨w, hw, ew⟩ := atI_mod Wh.d (holdersF m) hne (n / 24000) (L := ((holdersF m).map Wh.d).length) (List.length_map ..)
      have hpos2 : (0 : Int) < (((holdersF m).map Wh.d).length : Int) := by
        have : 0 < (holdersF m).length := List.length_pos_iff.mpr hne
        rw [List.length_map]
        omega
      exact u_asg (d := w.d) (ev_op (ev_var rfl) (ev_op (ev_op (ev_var rfl) ev_int (rd_ic ⟨by decide, by decide⟩)) (ev_cb (ea_cons (ev_var rfl) ea_nil) cd_lenL) (rd_ic hpos2)) (rd_ixL ew)) rz fun v13 H13 s13 m13 rz => hz _ _ ⟨w, holder_wi mi hw, rfl, (sA.trans s12).trans s13, wk (ρ := []) rz⟩
    · refine u_if (b := decide (5 < n / 3000 % 8)) (et_test (ev_op (ev_var rfl) ev_int rd_ib)) rz (fun hb2 H13 s13 rz => ?_) (fun hb2 H13 s13 rz => ?_)
      · generalize hbb : (decide (n / 3000 % 8 = 7) && decide (n / 24000 % 2 = 0)) = bb
        have ew : atI ([Wh.with_, Wh.nowhere].map Wh.d) (if bb then 1 else 0) = some (if bb then Wh.nowhere else Wh.with_).d := by
          cases bb
          · exact atI_nat (j := 0) rfl
          · exact atI_nat (j := 1) rfl
        have okk : WhI m m.things (if bb then Wh.nowhere else Wh.with_) ∧ (if bb then Wh.nowhere else Wh.with_).ok = true := by cases bb <;> exact ⟨trivial, rfl⟩
        exact u_asg (d := (if bb then Wh.nowhere else Wh.with_).d) (ev_op (EvN.toD (ds := [Wh.with_, Wh.nowhere].map Wh.d) (en_lst (ea_cons ev_with (ea_cons (ev_one ev_str) ea_nil)) (by show 2 ≤ 100000; decide))) (ev_cb (ea_cons ((ev_andV (ev_op (ev_var rfl) ev_int rd_eqI) (fun _ => (ev_op (ev_op (ev_op (ev_var rfl) ev_int (rd_ic ⟨by decide, by decide⟩)) ev_int (rd_ic (by decide))) ev_int rd_eqI))).is (congrArg D.bl hbb)) ea_nil) cd_intB) (rd_ixL ew)) rz fun v14 H14 s14 m14 rz => hz _ _ ⟨_, okk, rfl, ((sA.trans s12).trans s13).trans s14, wk (ρ := []) rz⟩
      · exact hz _ _ ⟨.at_ p.1, ⟨hpn, mi.pOk hpn⟩, rfl, (sA.trans s12).trans s13, wk (ρ := []) rz⟩
  · obtain ⟨w, ⟨hw1, hw2⟩, hs0, sB, rz⟩ := z
    let t : Thing := ⟨wordF m.seed (8 + (m.things.length : Int)), noun, adjs, w, srt tr⟩
    have tok : ThOk t := {
      name := word_ok (by omega) (by omega)
      noun := hno
      adjs := hadj
      few := had
      traits := by show (srt tr).length ≤ 8; rw [(srt_perm tr).length_eq]; exact t8
      bx := fun ⟨a, b⟩ => tbx ⟨(srt_perm tr).mem_iff.mp a, (srt_perm tr).mem_iff.mp b⟩
      trok := fun x hx => tso x ((srt_perm tr).mem_iff.mp hx)
      whok := hw2 }
    have hs02 : ∀ v : V, (σ'.set 9 (some v))[0]? = some (some (.ref C.mo)) := fun v => by rw [List.getElem?_set_ne (by decide)]; exact hs0
    try dsimp only
    refine u_seq (u_asg (d := t.d) (ev_tup (ds := [.str t.name, .str t.noun, .tup (t.adjs.map .str), t.whr.d, .tup (t.traits.map .str)]) (ea_cons (ev_call (ea_cons (ev_seed (ev_var rfl)) (ea_cons (ev_op ev_int (ev_var rfl) rd_ii) ea_nil)) ⟨m.seed, 8 + (m.things.length : Int), by omega, by omega, rfl, rfl⟩) (ea_cons (ev_var rfl) (ea_cons (ev_var rfl) (ea_cons (ev_var rfl) (ea_cons (ev_cb (ea_cons (EvN.toD (en_cb (ea_cons (ev_var rfl) ea_nil) (cn_sorted (by omega)))) ea_nil) cd_tupL) ea_nil))))) (by show 5 ≤ 100000; decide)) rz fun v15 H15 s15 m15 rz => ?_)
    have ms2 := ms.same (sB.trans s15)
    obtain ⟨xs, exs, kxs⟩ := ms2.th
    have hz : xs.length < 100000 := by rw [kxs.length, List.length_map]; omega
    try dsimp only
    refine u_app (fun Q q => ms_at ms2 (hs02 v15) (v := .ref C.th) 2 (by decide +kernel) (fun _ => rfl) _ (Same.refl _) Q q) (ev_var rfl) rz exs hz fun vv H16 s16 m16 => ?_
    have ms3 := ms2.same s16
    have m16o := Dm.lift ms3.noTup m16 (thing_tu t)
    exact k _ _ ((Fr.of ((sB.trans s15).trans s16)).trans (Fr.upd (show C.th ∈ C.l by simp [Cds.l]))) (ms3.setTh (s16 _ _ exs) m16o) (mi.addT hl rfl tok hw1 (fun z => absurd ((srt_perm tr).mem_iff.mp z) tnd)) ⟨rfl, rfl, rfl⟩
end Wt

namespace Wt
open PySem PySem.Spec PyProof.Rows L2
abbrev N_law_add_way : List Str := ["_law_model_here", "_law_number", "_law_most", "_law_names", "_law_at", "_law_free_here", "_law_other", "_law_door", "_law_back", "_law_traits", "_law_row", "_law_noun", "_law_words_here"]
theorem sc_law_add_way : FnScope N_law_add_way ["_law_model_here", "_law_number", "_law_most"] (defScope s_law_add_way) := ⟨rfl, rfl, rfl, by decide +kernel, rfl, by decide +kernel, by decide +kernel⟩
theorem d_law_add_way {P : Program} {w : World} {K : PySem.W.Frag} {mg : Str → Option Value} {base : Heap} {S W : Addr} {f : Addr} {fd : FuncData} (F : FunW K "_law_add_way" "_law_add_way" s_law_add_way f fd) (T : Txt K mg S W)
    (c1 : CalF P w K mg base "_law_free" 1 ["_law_model_here", "_law_place"] (SpN F_free))
    (c2 : CalF P w K mg base "_law_word" 2 ["_law_seed", "_law_k"] (SpD F_word))
    (c3 : CalF P w K mg base "_law_called" 3 ["_law_model_here", "_law_number"] (SpS F_called)) : FnOk P w K mg base CX0 4 f fd ["_law_model_here", "_law_number", "_law_most"] (SpAddY) := by
  obtain ⟨_, _, G1, M1, K1, B1⟩ := c1.ex
  obtain ⟨_, _, G2, M2, K2, B2⟩ := c2.ex
  obtain ⟨_, _, G3, M3, K3, B3⟩ := c3.ex
  refine F.ok sc_law_add_way (fun vs H Q E h => by obtain ⟨C, m, n, ms, mi, rfl, k⟩ := h; rfl) (fun cdv A outer s0 H vs Q E hr h => ?_)
  have hu := hu_of hr

  obtain ⟨C, m, n, ms, mi, rfl, k⟩ := h
  refine ⟨_, PSs.nox (pss_cons (ps_setLc (i := 3) (own := [("_law_row", 10)]) (g := (gName 10)) (tt := tYes) rfl sc_law_add_way.nd rfl rfl (sw_true rfl rfl rfl (by decide +kernel)) (kList (K := K) (pe_dget hu (pv 0) pe_str (fun _ _ => rfl))) (blkOk_by (own := [("_law_row", 10)]) (N := N_law_add_way) (sc := defScope s_law_add_way) (by decide +kernel)) (fun _ _ _ _ _ => (pg_name (i := 10) sc_law_add_way.nd rfl (Or.inl rfl))) (fun _ _ _ _ _ => pts_nil) (fun _ _ _ _ _ => (pe_ix (kIxT (K := K)) (pv 10) pe_int (fun _ _ => rfl))))
    (pss_cons (ps_set (i := 4) sc_law_add_way.nd rfl (Or.inl rfl) (pe_op op_mod (pv 1) (pe_callB (kLen (K := K)) (by rfl) T.len (by decide +kernel) (pa_cons (pv 3) pa_nil))))
    (pss_cons (ps_set (i := 5) sc_law_add_way.nd rfl (Or.inl rfl) (pe_call G1 (hr.mono (by decide)) rfl M1 K1 B1 .nil pass0 (pa_cons (pv 0) (pa_cons (pe_ix (kIxL (K := K)) (pv 3) (pv 4) (fun _ _ => rfl)) pa_nil))))
    (pss_cons (ps_if (PW.pt (pw_or (pt_cmpR op_eq (pe_callB (kLen (K := K)) (by rfl) T.len (by decide +kernel) (pa_cons (pv 3) pa_nil)) pe_int (by rfl)) (pw_or (pt_cmpR (kEqD (K := K) hr.units) (pv 5) (pe_lst pa_nil) (by rfl)) (pw_or1 (pt_cmpR op_gt (pe_callB (kLen (K := K)) (by rfl) T.len (by decide +kernel) (pa_cons (pe_dget hu (pv 0) pe_str (fun _ _ => rfl)) pa_nil)) pe_int (by rfl)))))) (pss_one ps_retN) pss_nil)
    (pss_cons (ps_set (i := 6) sc_law_add_way.nd rfl (Or.inl rfl) (pe_ix (kIxL (K := K)) (pv 3) (pe_op op_mod (pe_op op_add (pe_op op_add (pv 4) pe_int) (pe_op op_mod (pe_op op_fdiv (pv 1) pe_int) (pe_op op_sub (pe_callB (kLen (K := K)) (by rfl) T.len (by decide +kernel) (pa_cons (pv 3) pa_nil)) pe_int))) (pe_callB (kLen (K := K)) (by rfl) T.len (by decide +kernel) (pa_cons (pv 3) pa_nil))) (fun _ _ => rfl)))
    (pss_cons (ps_set (i := 7) sc_law_add_way.nd rfl (Or.inl rfl) pe_str)
    (pss_cons (ps_if (PW.pt (pw_and (pt_cmpR op_eq (pe_op op_mod (pe_op op_fdiv (pv 1) pe_int) pe_int) pe_int (by rfl)) (pw_and1 (pt_cmpR op_lt (pe_callB (kLen (K := K)) (by rfl) T.len (by decide +kernel) (pa_cons (pe_dget hu (pv 0) pe_str (fun _ _ => rfl)) pa_nil)) (pv 2) (by rfl))))) (pss_cons (ps_set (i := 7) sc_law_add_way.nd rfl (Or.inl rfl) (pe_call G2 (hr.mono (by decide)) rfl M2 K2 B2 .nil pass0 (pa_cons (pe_dget hu (pv 0) pe_str (fun _ _ => rfl)) (pa_cons (pe_op op_add pe_int (pe_callB (kLen (K := K)) (by rfl) T.len (by decide +kernel) (pa_cons (pe_dget hu (pv 0) pe_str (fun _ _ => rfl)) pa_nil))) pa_nil))))
    (pss_cons (ps_asg (pe_call G3 (hr.mono (by decide)) rfl M3 K3 B3 .nil pass0 (pa_cons (pv 0) (pa_cons (pe_op op_fdiv (pv 1) pe_int) pa_nil))) (kTupG (K := K) (by rfl) (pgs_cons (pg_name (i := 11) sc_law_add_way.nd rfl (Or.inl rfl)) (pgs_cons (pg_name (i := 12) sc_law_add_way.nd rfl (Or.inl rfl)) pgs_nil))))
    (pss_cons (ps_set (i := 9) sc_law_add_way.nd rfl (Or.inl rfl) (pe_op (kCatA (K := K)) (pe_op (kCatA (K := K)) (pe_tup (pa_cons pe_str pa_nil)) (pe_op (kRepT (K := K)) (pe_tup (pa_cons pe_str pa_nil)) (pe_op op_fdiv (pe_op op_mod (pe_op op_fdiv (pv 1) pe_int) pe_int) pe_int))) (pe_op (kRepT (K := K)) (pe_tup (pa_cons pe_str pa_nil)) (pe_op op_mod (pe_op op_fdiv (pv 1) pe_int) pe_int))))
    (pss_one (ps_expr (pe_bm PySem.F.plainAttrs_list PySem.F.slot_list_append PySem.F.type_list_append mt_append (pe_dget hu (pv 0) pe_str (fun _ _ => rfl)) (pa_cons (pe_tup (pa_cons (pv 7) (pa_cons (pv 11) (pa_cons (pv 12) (pa_cons (pe_tup (pa_cons pe_str pa_nil)) (pa_cons (pv 9) pa_nil)))))) pa_nil))))))) pss_nil)
    (pss_cons (ps_expr (pe_bm PySem.F.plainAttrs_list PySem.F.slot_list_append PySem.F.type_list_append mt_append (pe_dget hu (pv 0) pe_str (fun _ _ => rfl)) (pa_cons (pe_tup (pa_cons (pe_ix (kIxL (K := K)) (pv 3) (pv 4) (fun _ _ => rfl)) (pa_cons (pe_ix (kIxL (K := K)) (pv 5) (pe_op op_mod (pe_op op_fdiv (pv 1) pe_int) (pe_callB (kLen (K := K)) (by rfl) T.len (by decide +kernel) (pa_cons (pv 5) pa_nil))) (fun _ _ => rfl)) (pa_cons (pv 6) (pa_cons (pv 7) pa_nil))))) pa_nil)))
    (pss_cons (ps_set (i := 8) sc_law_add_way.nd rfl (Or.inl rfl) (pe_call G1 (hr.mono (by decide)) rfl M1 K1 B1 .nil pass0 (pa_cons (pv 0) (pa_cons (pv 6) pa_nil))))
    (pss_one (ps_if (PW.pt (pw_and (pt_cmpR (kNeD (K := K) hr.units) (pv 8) (pe_lst pa_nil) (by rfl)) (pw_and1 (pt_cmpR op_gt (pe_op op_mod (pe_op op_fdiv (pv 1) pe_int) pe_int) pe_int (by rfl))))) (pss_one (ps_expr (pe_bm PySem.F.plainAttrs_list PySem.F.slot_list_append PySem.F.type_list_append mt_append (pe_dget hu (pv 0) pe_str (fun _ _ => rfl)) (pa_cons (pe_tup (pa_cons (pv 6) (pa_cons (pe_ix (kIxL (K := K)) (pv 8) (pe_op op_mod (pe_op op_fdiv (pv 1) pe_int) (pe_callB (kLen (K := K)) (by rfl) T.len (by decide +kernel) (pa_cons (pv 8) pa_nil))) (fun _ _ => rfl)) (pa_cons (pe_ix (kIxL (K := K)) (pv 3) (pv 4) (fun _ _ => rfl)) (pa_cons (pv 7) pa_nil))))) pa_nil)))) pss_nil))))))))))), ?_⟩
  have tl := mi.tl
  have yl := mi.yl
  have hpl := mi.pl8
  have pne : m.pnames ≠ [] := fun z => mi.p1 (List.map_eq_nil_iff.mp z)
  have pl : (m.pnames.map D.str).length = m.places.length := by rw [List.length_map, List.length_map]
  have rz : Rz mt [some m.d, some (.int n), some (.int 12), none, none, none, none, none, none, none, none, none, none] (L2.start N_law_add_way [.ref C.mo, .int n, .int 12]) H := (RzL.on ms.dm (.on (.int n) (.on (.int 12) (.no (.no (.no (.no (.no (.no (.no (.no (.no (.no .nil))))))))))))).rz
  try dsimp only
  refine u_seq (u_asgS (ss := m.pnames) ((en_map placeD m.places (fun p ρ => ρ.set 10 (some (placeD p))) (fun p => .str p.1) (ev_places (ev_var rfl)) (by omega) (fun _ _ => tg_name) (fun p _ => (ev_op (x := placeD p) (ev_var rfl) ev_int (rd_ixT (d := .str p.1) rfl)))).is (by rw [List.map_map]; rfl)) rz fun p3 H3 n3 s3 e3 rz => ?_)
  have c3 := ms.alloc n3
  obtain ⟨src, hsrc, esrc⟩ := atI_mod D.str m.pnames pne n (L := (m.pnames.map D.str).length) (List.length_map ..)
  have hpos : (0 : Int) < ((m.pnames.map D.str).length : Int) := by omega
  try dsimp only
  refine u_seq (u_asg (d := .int (n % ((m.pnames.map D.str).length : Int))) (ev_op (ev_var rfl) (ev_cb (ea_cons (ev_var rfl) ea_nil) cd_lenL) (rd_ic hpos)) rz fun v4 H4 s4 m4 rz => ?_)
  cases m4
  have fdir : ∀ (mm : Mo) (q x : Str), x ∈ freeF mm q → PyData.strOk x = true := fun mm q x hx => dir_ok (List.mem_filter.mp hx).1
  try dsimp only
  refine u_seq (u_asgS (ss := freeF m src) (en_call (ea_cons (ev_var rfl) (ea_cons (ev_op (ev_var rfl) (ev_var rfl) (rd_ixL esrc)) ea_nil)) ⟨m, src, by omega, rfl, rfl⟩) rz fun p5 H5 n5 s5 e5 rz => ?_)
  have c5 := (ms.same (s3.trans s4)).alloc n5
  have e3 := s5 _ _ (s4 _ _ e3)
  have sA := (s3.trans s4).trans s5
  try dsimp only
  refine u_when (b := decide (((m.pnames.map D.str).length : Int) = 1) || ((freeF m src).isEmpty || decide ((11 : Int) < ((m.ways.map Way.d).length : Int)))) (et_or (et_test (ev_op (ev_cb (ea_cons (ev_var rfl) ea_nil) cd_lenL) ev_int rd_eqI)) (fun _ => et_or (et_test (ev_op (ev_var rfl) (EvN.toD (en_lst ea_nil (Nat.zero_le _))) (rd_eqNil (fdir m src)))) (fun _ => et_test (ev_op (ev_cb (ea_cons (ev_ways (ev_var rfl)) ea_nil) cd_lenL) ev_int rd_ib)))) rz (fun hb H6 s6 rz => ?_) (fun hb H6 s6 rz => ?_)
  · exact k H6 m (Fr.of (sA.trans s6)) (ms.same (sA.trans s6)) mi (Ext.refl m)
  obtain ⟨hb1, hb⟩ := Bool.or_eq_false_iff.mp hb
  obtain ⟨hb2, hb3⟩ := Bool.or_eq_false_iff.mp hb
  have k1 : ¬ ((m.pnames.map D.str).length : Int) = 1 := of_decide_eq_false hb1
  have fne : freeF m src ≠ [] := fun z => by rw [z] at hb2; cases hb2
  have wl : m.ways.length ≤ 11 := by
    have := of_decide_eq_false hb3
    rw [List.length_map] at this
    omega
  obtain ⟨dst, hdst, edst⟩ := atI_mod D.str m.pnames pne (n % ((m.pnames.map D.str).length : Int) + 1 + n / 8 % (((m.pnames.map D.str).length : Int) - 1)) (L := (m.pnames.map D.str).length) (List.length_map ..)
  try dsimp only
  refine u_seq (u_asg (d := .str dst) (ev_op (ev_var rfl) (ev_op (ev_op (ev_op (ev_var rfl) ev_int rd_ii) (ev_op (ev_op (ev_var rfl) ev_int (rd_ic ⟨by decide, by decide⟩)) (ev_op (ev_cb (ea_cons (ev_var rfl) ea_nil) cd_lenL) ev_int rd_ii) (rd_ic (by omega))) rd_ii) (ev_cb (ea_cons (ev_var rfl) ea_nil) cd_lenL) (rd_ic hpos)) (rd_ixL edst)) rz fun v7 H7 s7 m7 rz => ?_)
  cases m7
  try dsimp only
  refine u_seq (u_asg (d := .str Str.empty) ev_str rz fun v8 H8 s8 m8 rz => ?_)
  cases m8
  have sB := ((sA.trans s6).trans s7).trans s8
  have e3 := s8 _ _ (s7 _ _ (s6 _ _ e3))
  have e5 := s8 _ _ (s7 _ _ (s6 _ _ e5))
  have nc3 : C.th ≠ p3 := fun z => c3 (by rw [← z]; simp [inC, Cds.l])
  try dsimp only
  refine u_seq (u_thenZ (fun σ' H' => ∃ (m' : Mo) (door : Str), MI m' ∧ Ext m m' ∧ m'.ways = m.ways ∧ Ms H' C m' ∧ Fr (inC C) H H' ∧ (door = "" ∨ ∃ t, t ∈ m'.things ∧ t.name = door ∧ ("door" : Str) ∈ t.traits) ∧ σ'[0]? = some (some (.ref C.mo)) ∧ σ'[3]? = some (some (.ref p3)) ∧ σ'[5]? = some (some (.ref p5)) ∧ H' p3 = some (.lst (m.pnames.map V.str)) ∧ H' p5 = some (.lst ((freeF m src).map V.str)) ∧ Rz mt [some m'.d, some (.int n), none, some (.lst (m.pnames.map .str)), some (.int (n % ((m.pnames.map D.str).length : Int))), some (.lst ((freeF m src).map .str)), some (.str dst), some (.str door), none, none, none, none, none] σ' H') (fun hz => ?_) (fun σ' H' z => ?_))
  · refine u_if (b := decide (n / 64 % 3 = 0) && decide (((m.things.map Thing.d).length : Int) < 12)) (et_and (et_test (ev_op (ev_op (ev_op (ev_var rfl) ev_int (rd_ic ⟨by decide, by decide⟩)) ev_int (rd_ic (by decide))) ev_int rd_eqI)) (fun _ => et_test (ev_op (ev_cb (ea_cons (ev_things (ev_var rfl)) ea_nil) cd_lenL) (ev_var rfl) rd_ib))) rz (fun hb H9 s9 rz => ?_) (fun hb H9 s9 rz => ?_)
    · have hl : m.things.length < 12 := by
        have := of_decide_eq_true (Bool.and_eq_true_iff.mp hb).2
        rw [List.length_map] at this
        omega
      try dsimp only
      refine u_seq (u_asg (d := .str (wordF m.seed (8 + (m.things.length : Int)))) (ev_call (ea_cons (ev_seed (ev_var rfl)) (ea_cons ((ev_op ev_int (ev_cb (ea_cons (ev_things (ev_var rfl)) ea_nil) cd_lenL) rd_ii).is (by rw [List.length_map])) ea_nil)) ⟨m.seed, 8 + (m.things.length : Int), by omega, by omega, rfl, rfl⟩) rz fun v10 H10 s10 m10 rz => ?_)
      cases m10
      try dsimp only
      refine u_seq (u_call2 (ea_cons (ev_var rfl) (ea_cons (ev_op (ev_var rfl) ev_int (rd_ic ⟨by decide, by decide⟩)) ea_nil)) ⟨m, n / 7, tl, mi.tok, rfl, rfl⟩ rz fun noun adjs x y H11 hno had hadj s11 mx my rz => ?_)
      have q0 : 0 ≤ n / 200 % 4 := Int.emod_nonneg _ (by decide)
      have q1 : n / 200 % 4 < 4 := Int.emod_lt_of_pos _ (by decide)
      have hq1 : n / 200 % 4 / 3 = 0 ∨ n / 200 % 4 / 3 = 1 := by omega
      have q2 : 0 ≤ n / 800 % 2 := Int.emod_nonneg _ (by decide)
      have q3 : n / 800 % 2 < 2 := Int.emod_lt_of_pos _ (by decide)
      have hq2 : n / 800 % 2 = 0 ∨ n / 800 % 2 = 1 := by omega
      obtain ⟨t8, tbx, tso, tdr⟩ := dtr_ok hq1 hq2
      have etr := dtr_D hq1 hq2
      have lif : ∀ (c : Prop) [Decidable c] (d : D), (if c then [d] else []).length ≤ 1 := fun c _ d => by split <;> simp
      have lf1 := lif (n / 200 % 4 / 3 = 1) (.str "lit")
      have lf2 := lif (n / 800 % 2 = 1) (.str "shut")
      try dsimp only
      refine u_seq (u_asg (d := .tup ((dtrF (n / 200 % 4 / 3) (n / 800 % 2)).map .str)) (EvD.is (ev_op (ev_op (ev_one ev_str) (ev_op (ev_one ev_str) (ev_op (ev_op (ev_op (ev_var rfl) ev_int (rd_ic ⟨by decide, by decide⟩)) ev_int (rd_ic (by decide))) ev_int (rd_ic ⟨by decide, by decide⟩)) (rd_repT (fun z => nomatch z) hq1)) (rd_catT (by show 1 + _ ≤ _; omega))) (ev_op (ev_one ev_str) (ev_op (ev_op (ev_var rfl) ev_int (rd_ic ⟨by decide, by decide⟩)) ev_int (rd_ic (by decide))) (rd_repT (fun z => nomatch z) hq2)) (rd_catT (by rw [List.length_append]; show 1 + _ + _ ≤ _; omega))) etr) rz fun v12 H12 s12 m12 rz => ?_)
      generalize dtrF (n / 200 % 4 / 3) (n / 800 % 2) = tr at m12 rz t8 tbx tso tdr
      have sC := (((sB.trans s9).trans s10).trans s11).trans s12
      let t : Thing := ⟨wordF m.seed (8 + (m.things.length : Int)), noun, adjs, .nowhere, tr⟩
      have tok : ThOk t := ⟨word_ok (by omega) (by omega), hno, hadj, had, t8, tbx, tso, rfl⟩
      have ms2 := ms.same sC
      obtain ⟨xs, exs, kxs⟩ := ms2.th
      have hzl : xs.length < 100000 := by rw [kxs.length, List.length_map]; omega
      try dsimp only
      refine u_app (d := t.d) (fun Q q => ms_at ms2 rfl (v := .ref C.th) 2 (by decide +kernel) (fun _ => rfl) _ (Same.refl _) Q q) (ev_tup (ds := [.str t.name, .str t.noun, .tup (t.adjs.map .str), t.whr.d, .tup (t.traits.map .str)]) (ea_cons (ev_var rfl) (ea_cons (ev_var rfl) (ea_cons (ev_var rfl) (ea_cons (ev_one ev_str) (ea_cons (ev_var rfl) ea_nil))))) (by show 5 ≤ 100000; decide)) rz exs hzl fun vv H16 s16 m16 => ?_
      have ms3 := ms2.same s16
      have m16o := Dm.lift ms3.noTup m16 (thing_tu t)
      have ms4 := ms3.setTh (s16 _ _ exs) m16o
      have hC : inC C C.th := by simp [inC, Cds.l]
      have e3' : (upd H16 C.th (.lst (xs ++ [vv]))) p3 = some (.lst (m.pnames.map V.str)) := by rw [upd_ne fun z => c3 (by rw [z]; exact hC)]; exact s16 _ _ (s12 _ _ (s11 _ _ (s10 _ _ (s9 _ _ e3))))
      have e5' : (upd H16 C.th (.lst (xs ++ [vv]))) p5 = some (.lst ((freeF m src).map V.str)) := by rw [upd_ne fun z => c5 (by rw [z]; exact hC)]; exact s16 _ _ (s12 _ _ (s11 _ _ (s10 _ _ (s9 _ _ e5))))
      have fr : Fr (inC C) H (upd H16 C.th (.lst (xs ++ [vv]))) := (Fr.of (sC.trans s16)).trans (Fr.upd hC)
      generalize upd H16 C.th (.lst (xs ++ [vv])) = H17 at ms4 e3' e5' fr
      refine hz _ _ ⟨{ m with things := m.things ++ [t] }, t.name, mi.addT hl rfl tok trivial (fun _ => rfl), ⟨rfl, rfl, rfl⟩, rfl, ms4, fr, .inr ⟨t, List.mem_append_right _ (by simp), rfl, tdr⟩, rfl, rfl, rfl, e3', e5', ?_⟩
      exact (RzL.on ms4.dm (.on (.int n) (.no (.on (.lst (fun z => z) e3' (DmL.ofStrs _)) (.on (.int _) (.on (.lst (fun z => z) e5' (DmL.ofStrs _)) (.on (.str _) (.on (.str _) (.no (.no (.no (.no (.no .nil))))))))))))).rz
    · exact hz _ _ ⟨m, Str.empty, mi, Ext.refl m, rfl, ms.same (sB.trans s9), Fr.of (sB.trans s9), .inl rfl, rfl, rfl, rfl, s9 _ _ e3, s9 _ _ e5, Rz.weak rz (.keep (.keep (.drop (.keep (.keep (.keep (.keep (.keep (.keep (.keep (.keep (.keep (.keep .nil)))))))))))))⟩
  · obtain ⟨m', door, mi', ext, ew, ms', fr, hdoor, h0, h3, h5, e3, e5, rz⟩ := z
    have epn : m'.pnames = m.pnames := by unfold Mo.pnames; rw [ext.places]
    have eff : ∀ q, freeF m' q = freeF m q := fun q => by unfold freeF; rw [ew]
    obtain ⟨dir, hdir, edir⟩ := atI_mod D.str (freeF m src) fne (n / 1600) (L := ((freeF m src).map D.str).length) (List.length_map ..)
    have hposF : (0 : Int) < (((freeF m src).map D.str).length : Int) := by
      have : 0 < (freeF m src).length := List.length_pos_iff.mpr fne
      rw [List.length_map]
      omega
    let y : Way := ⟨src, dir, dst, door⟩
    obtain ⟨xs, exs, kxs⟩ := ms'.wy
    have hzl : xs.length < 100000 := by rw [kxs.length, List.length_map, ew]; omega
    try dsimp only
    refine u_seq (u_app (d := y.d) (fun Q q => ms_at ms' h0 (v := .ref C.wy) 3 (by decide +kernel) (fun _ => rfl) _ (Same.refl _) Q q) (ev_tup (ds := [.str y.src, .str y.dir, .str y.dst, .str y.door]) (ea_cons (ev_op (ev_var rfl) (ev_var rfl) (rd_ixL esrc)) (ea_cons (ev_op (ev_var rfl) (ev_op (ev_op (ev_var rfl) ev_int (rd_ic ⟨by decide, by decide⟩)) (ev_cb (ea_cons (ev_var rfl) ea_nil) cd_lenL) (rd_ic hposF)) (rd_ixL edir)) (ea_cons (ev_var rfl) (ea_cons (ev_var rfl) ea_nil)))) (by show 4 ≤ 100000; decide)) rz exs hzl fun vv H16 s16 m16 => ?_)
    have ms3 := ms'.same s16
    have m16o := Dm.lift ms3.noTup m16 (way_tu y)
    have ms4 := ms3.setWy (s16 _ _ exs) m16o
    have hC : inC C C.wy := by simp [inC, Cds.l]
    have e3' : (upd H16 C.wy (.lst (xs ++ [vv]))) p3 = some (.lst (m.pnames.map V.str)) := by rw [upd_ne fun z => c3 (by rw [z]; exact hC)]; exact s16 _ _ e3
    have fr2 : Fr (inC C) H (upd H16 C.wy (.lst (xs ++ [vv]))) := (fr.trans (Fr.of s16)).trans (Fr.upd hC)
    generalize upd H16 C.wy (.lst (xs ++ [vv])) = H17 at ms4 e3' fr2
    have mi4 : MI { m' with ways := m'.ways ++ [y] } := mi'.addY (by rw [ew]; omega) (by rw [epn]; exact hsrc) (by rw [epn]; exact hdst) (by show dir ∈ freeF m' src; rw [eff]; exact hdir) hdoor
    have ext4 : Ext m { m' with ways := m'.ways ++ [y] } := ⟨ext.seed, ext.places, ext.states⟩
    have wl4 : (m'.ways ++ [y]).length ≤ 12 := by rw [ew, List.length_append]; show _ + 1 ≤ _; omega
    have hdoor4 : door = "" ∨ ∃ t, t ∈ ({ m' with ways := m'.ways ++ [y] } : Mo).things ∧ t.name = door ∧ ("door" : Str) ∈ t.traits := hdoor
    have epn4 : ({ m' with ways := m'.ways ++ [y] } : Mo).pnames = m.pnames := epn
    have wl5 : ({ m' with ways := m'.ways ++ [y] } : Mo).ways.length ≤ 12 := wl4
    generalize ({ m' with ways := m'.ways ++ [y] } : Mo) = m4 at ms4 mi4 ext4 hdoor4 epn4 wl5
    have rz4 : Rz mt [some m4.d, some (.int n), none, some (.lst (m.pnames.map .str)), some (.int (n % ((m.pnames.map D.str).length : Int))), none, some (.str dst), some (.str door), none, none, none, none, none] σ' H17 := ⟨rz.len, fun i d e => by
      have hi : i = 0 ∨ (i = 1 ∨ i = 4 ∨ i = 6 ∨ i = 7) ∨ i = 3 ∨ i = 2 ∨ i = 5 ∨ i = 8 ∨ i = 9 ∨ i = 10 ∨ i = 11 ∨ i = 12 := by
        have : i < 13 := by
          rcases Nat.lt_or_ge i 13 with q | q
          · exact q
          · rw [List.getElem?_eq_none (by simpa using q)] at e
            cases e
        omega
      rcases hi with q | q | q | q
      · subst q
        cases e
        exact ⟨_, h0, ms4.dm⟩
      · have sc : ∀ {v : V} {d : D}, Dm mt H' v d → (∃ z, d = .int z) ∨ (∃ z, d = .str z) → Dm mt H17 v d := fun {v d} md z => by
          rcases z with ⟨z, rfl⟩ | ⟨z, rfl⟩
          · cases md; exact .int _
          · cases md; exact .str _
        rcases q with q | q | q | q <;> (subst q; cases e)
        · obtain ⟨v, hv, md⟩ := rz.at_ 1 _ rfl
          exact ⟨v, hv, sc md (.inl ⟨_, rfl⟩)⟩
        · obtain ⟨v, hv, md⟩ := rz.at_ 4 _ rfl
          exact ⟨v, hv, sc md (.inl ⟨_, rfl⟩)⟩
        · obtain ⟨v, hv, md⟩ := rz.at_ 6 _ rfl
          exact ⟨v, hv, sc md (.inr ⟨_, rfl⟩)⟩
        · obtain ⟨v, hv, md⟩ := rz.at_ 7 _ rfl
          exact ⟨v, hv, sc md (.inr ⟨_, rfl⟩)⟩
      · subst q
        cases e
        exact ⟨_, h3, .lst (fun z => z) e3' (DmL.ofStrs _)⟩
      · rcases q with q | q | q | q | q | q | q <;> (subst q; cases e)⟩
    try dsimp only
    refine u_seq (u_asgS (ss := freeF m4 dst) (en_call (ea_cons (ev_var rfl) (ea_cons (ev_var rfl) ea_nil)) ⟨m4, dst, by omega, rfl, rfl⟩) rz4 fun p8 H18 n8 s18 e8 rz => ?_)
    have ms5 := ms4.same s18
    have h0' : (σ'.set 8 (some (.ref p8)))[0]? = some (some (.ref C.mo)) := by rw [List.getElem?_set_ne (by decide)]; exact h0
    try dsimp only
    refine u_if (b := !(freeF m4 dst).isEmpty && decide ((0 : Int) < n / 9600 % 3)) (et_and (et_test (ev_op (ev_var rfl) (EvN.toD (en_lst ea_nil (Nat.zero_le _))) (rd_neNil (fdir m4 dst)))) (fun _ => et_test (ev_op (ev_op (ev_op (ev_var rfl) ev_int (rd_ic ⟨by decide, by decide⟩)) ev_int (rd_ic (by decide))) ev_int rd_ib))) rz (fun hb H19 s19 rz => ?_) (fun hb H19 s19 rz => ?_)
    · have bne : freeF m4 dst ≠ [] := fun z => by
        have q := (Bool.and_eq_true_iff.mp hb).1
        rw [z] at q
        cases q
      obtain ⟨dir2, hdir2, edir2⟩ := atI_mod D.str (freeF m4 dst) bne (n / 28800) (L := ((freeF m4 dst).map D.str).length) (List.length_map ..)
      have hposB : (0 : Int) < (((freeF m4 dst).map D.str).length : Int) := by
        have : 0 < (freeF m4 dst).length := List.length_pos_iff.mpr bne
        rw [List.length_map]
        omega
      let y2 : Way := ⟨dst, dir2, src, door⟩
      have ms6 := ms5.same s19
      obtain ⟨xs2, exs2, kxs2⟩ := ms6.wy
      have hzl2 : xs2.length < 100000 := by rw [kxs2.length, List.length_map]; omega
      try dsimp only
      refine u_app (d := y2.d) (fun Q q => ms_at ms6 h0' (v := .ref C.wy) 3 (by decide +kernel) (fun _ => rfl) _ (Same.refl _) Q q) (ev_tup (ds := [.str y2.src, .str y2.dir, .str y2.dst, .str y2.door]) (ea_cons (ev_var rfl) (ea_cons (ev_op (ev_var rfl) (ev_op (ev_op (ev_var rfl) ev_int (rd_ic ⟨by decide, by decide⟩)) (ev_cb (ea_cons (ev_var rfl) ea_nil) cd_lenL) (rd_ic hposB)) (rd_ixL edir2)) (ea_cons (ev_op (ev_var rfl) (ev_var rfl) (rd_ixL esrc)) (ea_cons (ev_var rfl) ea_nil)))) (by show 4 ≤ 100000; decide)) rz exs2 hzl2 fun vv2 H20 s20 m20 => ?_
      have ms7 := ms6.same s20
      exact k _ _ ((fr2.trans (Fr.of ((s18.trans s19).trans s20))).trans (Fr.upd hC)) (ms7.setWy (s20 _ _ exs2) (Dm.lift ms7.noTup m20 (way_tu y2))) (mi4.addY (by omega) (by rw [epn4]; exact hdst) (by rw [epn4]; exact hsrc) hdir2 hdoor4) ⟨ext4.seed, ext4.places, ext4.states⟩
    · exact k _ _ (fr2.trans (Fr.of (s18.trans s19))) (ms5.same s19) mi4 ext4
end Wt

namespace Wt
open PySem PySem.Spec PyProof.Rows L2
abbrev N_law_model : List Str := ["_law_script", "_law_most", "_law_seed", "_law_places", "_law_model_here", "_law_k", "_law_cell", "_law_number"]
theorem sc_law_model : FnScope N_law_model ["_law_script", "_law_most"] (defScope s_law_model) := ⟨rfl, rfl, rfl, by decide +kernel, rfl, by decide +kernel, by decide +kernel⟩
theorem d_law_model {P : Program} {w : World} {K : PySem.W.Frag} {mg : Str → Option Value} {base : Heap} {S W : Addr} {f : Addr} {fd : FuncData} (F : FunW K "_law_model" "_law_model" s_law_model f fd) (T : Txt K mg S W)
    (c1 : CalF P w K mg base "_law_drawn" 1 ["_law_cell", "_law_k"] (SpD F_drawn))
    (c2 : CalF P w K mg base "_law_word" 2 ["_law_seed", "_law_k"] (SpD F_word))
    (c3 : CalF P w K mg base "_law_add_thing" 4 ["_law_model_here", "_law_number"] (SpAddT))
    (c4 : CalF P w K mg base "_law_add_way" 4 ["_law_model_here", "_law_number", "_law_most"] (SpAddY)) : FnOk P w K mg base CX0 5 f fd ["_law_script", "_law_most"] (SpModel K) := by
  obtain ⟨_, _, G1, M1, K1, B1⟩ := c1.ex
  obtain ⟨_, _, G2, M2, K2, B2⟩ := c2.ex
  obtain ⟨_, _, G3, M3, K3, B3⟩ := c3.ex
  obtain ⟨_, _, G4, M4, K4, B4⟩ := c4.ex
  refine F.ok sc_law_model (fun vs H Q E h => by obtain ⟨a, ns, hl, hs, rfl, k⟩ := h; rfl) (fun cdv A outer s0 H vs Q E hr h => ?_)
  have hu := hu_of hr

  obtain ⟨a, ns, hl, hs, rfl, k⟩ := h
  refine ⟨_, PSs.nox (pss_cons (ps_set (i := 2) sc_law_model.nd rfl (Or.inr rfl) (pe_call G1 (hr.mono (by decide)) rfl M1 K1 B1 .nil pass0 (pa_cons (pe_callB (kSum (K := K) rfl) (by rfl) T.sum (by decide +kernel) (pa_cons (pv 0) pa_nil)) (pa_cons pe_int pa_nil))))
    (pss_cons (ps_setLc (i := 3) (own := [("_law_k", 5)]) (g := (gName 5)) (tt := tYes) rfl sc_law_model.nd rfl rfl (sw_true rfl rfl rfl (by decide +kernel)) (pi_range1 (by rfl) T.range (pa_cons (pe_op op_add pe_int (pe_op op_mod (pv 2) pe_int)) pa_nil)) (blkOk_by (own := [("_law_k", 5)]) (N := N_law_model) (sc := defScope s_law_model) (by decide +kernel)) (fun _ _ _ _ _ => (pg_name (i := 5) sc_law_model.nd rfl (Or.inl rfl))) (fun _ _ _ _ _ => pts_nil) (fun _ _ _ _ _ => (pe_tup (pa_cons (pe_call G2 (hr.mono (by decide)) rfl M2 K2 B2 .nil pass0 (pa_cons (pv 2) (pa_cons (pv 5) pa_nil))) (pa_cons (pe_cmpR op_eq (pe_op op_mod (pe_call G1 (hr.mono (by decide)) rfl M1 K1 B1 .nil pass0 (pa_cons (pv 2) (pa_cons (pv 5) pa_nil))) pe_int) pe_int (by rfl)) pa_nil)))))
    (pss_cons (ps_set (i := 4) sc_law_model.nd rfl (Or.inl rfl) (pe_disp (pps_cons pe_str (pv 2) (pps_cons pe_str (pv 3) (pps_cons pe_str (pe_lst pa_nil) (pps_cons pe_str (pe_lst pa_nil) (pps_cons pe_str (pe_lst pa_nil) pps_nil))))) (by rfl) (by rfl) (fun z => by cases z) (by decide)))
    (pss_cons (ps_for PassesOwn.never rfl (kEnum (K := K) (by rfl) T.enumerate (pa_cons (pe_op op_cat (pe_slice (kSlL (K := K)) (pv 0) po_none (po_some pe_int)) (pe_lst (pa_cons pe_int (pa_cons pe_int pa_nil)))) pa_nil)) (kTupG (K := K) (by rfl) (pgs_cons (pg_name (i := 5) sc_law_model.nd rfl (Or.inl rfl)) (pgs_cons (pg_name (i := 6) sc_law_model.nd rfl (Or.inl rfl)) pgs_nil))) (pss_cons (ps_set (i := 7) sc_law_model.nd rfl (Or.inl rfl) (pe_call G1 (hr.mono (by decide)) rfl M1 K1 B1 .nil pass0 (pa_cons (pv 6) (pa_cons (pv 5) pa_nil))))
    (pss_one (ps_if (PW.pt (pw_and (pt_cmpR op_lt (pe_op op_mod (pv 7) pe_int) pe_int (by rfl)) (pw_and1 (pt_cmpR op_lt (pe_callB (kLen (K := K)) (by rfl) T.len (by decide +kernel) (pa_cons (pe_dget hu (pv 4) pe_str (fun _ _ => rfl)) pa_nil)) (pv 1) (by rfl))))) (pss_one (ps_expr (pe_call G3 (hr.mono (by decide)) rfl M3 K3 B3 .nil pass0 (pa_cons (pv 4) (pa_cons (pe_op op_fdiv (pv 7) pe_int) pa_nil))))) (pss_one (ps_expr (pe_call G4 (hr.mono (by decide)) rfl M4 K4 B4 .nil pass0 (pa_cons (pv 4) (pa_cons (pe_op op_fdiv (pv 7) pe_int) (pa_cons (pv 1) pa_nil))))))))))
    (pss_cons (ps_for PassesOwn.never rfl (pi_range1 (by rfl) T.range (pa_cons (pe_op op_mod (pe_op op_fdiv (pv 2) pe_int) pe_int) pa_nil)) (pg_name (i := 5) sc_law_model.nd rfl (Or.inl rfl)) (pss_one (ps_expr (pe_bm PySem.F.plainAttrs_list PySem.F.slot_list_append PySem.F.type_list_append mt_append (pe_dget hu (pv 4) pe_str (fun _ _ => rfl)) (pa_cons (pe_tup (pa_cons (pe_call G2 (hr.mono (by decide)) rfl M2 K2 B2 .nil pass0 (pa_cons (pv 2) (pa_cons (pe_op op_add pe_int (pv 5)) pa_nil))) (pa_cons (pe_op op_mod (pe_call G1 (hr.mono (by decide)) rfl M1 K1 B1 .nil pass0 (pa_cons (pv 2) (pa_cons (pe_op op_add pe_int (pv 5)) pa_nil))) pe_int) pa_nil))) pa_nil)))))
    (pss_one (ps_ret (pv 4)))))))), ?_⟩
  have sd0 : 0 ≤ drawnF ns.sum 90 := drawn_nn _ _
  have rz0 : Rz mt [none, some (.int 12), none, none, none, none, none, none] (L2.start N_law_model [.ref a, .int 12]) H := (RzL.no (.on (.int 12) (.no (.no (.no (.no (.no (.no .nil)))))))).rz
  refine u_seq ⟨_, rfl, a, ns, rfl, hs, mt, [.int ns.sum, .int 90], .int (drawnF ns.sum 90), dom_mt, .cons (.int _) (.cons (.int _) .nil), ⟨ns.sum, 90, by decide, by decide, rfl, rfl⟩, fun v1 H1 s1 m1 => ?_⟩
  cases m1
  generalize drawnF ns.sum 90 = sd at sd0
  have b0 : 0 ≤ sd % 8 := Int.emod_nonneg _ (by decide)
  have b1 : sd % 8 < 8 := Int.emod_lt_of_pos _ (by decide)
  have en : (((1 + sd % 8).toNat : Nat) : Int) = 1 + sd % 8 := Int.toNat_of_nonneg (by omega)
  have rz : Rz mt [none, some (.int 12), some (.int sd), none, none, none, none, none] ((L2.start N_law_model [.ref a, .int 12]).set 2 (some (.int sd))) H1 := (Rz.same rz0 s1).set (i := 2) (.int sd)
  try dsimp only
  refine u_seq (u_asg (d := .lst ((placesF sd).map placeD)) ((EvN.toD (en_lcR (n := (1 + sd % 8).toNat) (fun _ => true) (fun (k : Nat) => placeD (wordF sd (k : Int), decide (drawnF sd (k : Int) % 3 = 1))) (ea_cons ((ev_op ev_int (ev_op (ev_var rfl) ev_int (rd_ic (by decide))) rd_ii).is (congrArg D.int en.symm)) ea_nil) (by omega) (fun _ _ => et_yes) (fun k hk _ => ev_tup (ea_cons (ev_call (ea_cons (ev_var rfl) (ea_cons (ev_var rfl) ea_nil)) ⟨sd, (k : Int), by omega, by omega, rfl, rfl⟩) (ea_cons (ev_op (ev_op (ev_call (ea_cons (ev_var rfl) (ea_cons (ev_var rfl) ea_nil)) ⟨sd, (k : Int), by omega, by omega, rfl, rfl⟩) ev_int (rd_ic (by decide))) ev_int rd_eqI) ea_nil)) (by show 2 ≤ 100000; decide)))).is ?_) rz fun v3 H2 s2 m3 rz => ?_)
  · unfold placesF
    rw [List.filter_eq_self.mpr fun _ _ => rfl, List.map_map]
    rfl
  have sA := s1.trans s2
  refine u_seq ?_
  intro p np
  have sp0 : Same H2 (upd H2 p (.dK [])) := Same.new np
  have ep : (upd H2 p (.dK [])) p = some (.dK []) := upd_same
  generalize upd H2 p (.dK []) = Hp at sp0 ep
  have rzp := Rz.same rz sp0
  simp only [tPairs]
  refine ⟨_, rfl, _, rfl, ?_⟩
  try dsimp only
  refine tC_run ?_
  try dsimp only
  refine (en_lst ea_nil (Nat.zero_le _) : EvN (tLst tNil) _ []) mt _ Hp dom_mt rzp _ fun q1 x1 Hq1 n1 t1 e1 k1 => ?_
  cases k1
  have ep := t1 _ _ ep
  have ne1 : q1 ≠ p := fun z => by rw [z] at e1; rw [ep] at e1; cases e1
  have rzp := Rz.same rzp t1
  try dsimp only
  refine tC_run ?_
  try dsimp only
  refine (en_lst ea_nil (Nat.zero_le _) : EvN (tLst tNil) _ []) mt _ Hq1 dom_mt rzp _ fun q2 x2 Hq2 n2 t2 e2 k2 => ?_
  cases k2
  have ep := t2 _ _ ep
  have ne2 : q2 ≠ p := fun z => by rw [z] at e2; rw [ep] at e2; cases e2
  have d21 : q2 ≠ q1 := fun z => by rw [z, e1] at n2; cases n2
  have e1 := t2 _ _ e1
  have rzp := Rz.same rzp t2
  try dsimp only
  refine tC_run ?_
  try dsimp only
  refine (en_lst ea_nil (Nat.zero_le _) : EvN (tLst tNil) _ []) mt _ Hq2 dom_mt rzp _ fun q3 x3 Hq3 n3 t3 e3 k3 => ?_
  cases k3
  have ep := t3 _ _ ep
  have ne3 : q3 ≠ p := fun z => by rw [z] at e3; rw [ep] at e3; cases e3
  have d31 : q3 ≠ q1 := fun z => by rw [z, e1] at n3; cases n3
  have d32 : q3 ≠ q2 := fun z => by rw [z, e2] at n3; cases n3
  have e1 := t3 _ _ e1
  have e2 := t3 _ _ e2
  refine ⟨ep, moF ⟨p, q1, q2, q3⟩ ⟨sd, placesF sd, [], [], []⟩ v3, rfl, (by show 5 ≤ 15; decide), ?_⟩
  rw [mo_merge]
  have fp2 : H2 p = none := np
  have f1 : H2 q1 = none := sp0.free n1
  have f2 : H2 q2 = none := (sp0.trans t1).free n2
  have f3 : H2 q3 = none := ((sp0.trans t1).trans t2).free n3
  have sM : Same H2 (upd Hq3 p (.dK (moF ⟨p, q1, q2, q3⟩ ⟨sd, placesF sd, [], [], []⟩ v3))) := fun b o e => by
    rw [upd_ne (ne_of_none e np)]
    exact t3 _ _ (t2 _ _ (t1 _ _ (sp0 _ _ e)))
  have fr2 : ∀ b, inC ⟨p, q1, q2, q3⟩ b → H2 b = none := fun b z => by
    have z2 : b = p ∨ b = q1 ∨ b = q2 ∨ b = q3 := by simpa [inC, Cds.l] using z
    rcases z2 with z | z | z | z
    · rw [z]; exact fp2
    · rw [z]; exact f1
    · rw [z]; exact f2
    · rw [z]; exact f3
  have ms : Ms (upd Hq3 p (.dK (moF ⟨p, q1, q2, q3⟩ ⟨sd, placesF sd, [], [], []⟩ v3))) ⟨p, q1, q2, q3⟩ ⟨sd, placesF sd, [], [], []⟩ := by
    refine ⟨?_, ⟨v3, upd_same, Dm.kp (.same sM) (fun b z => .inr (fr2 b z)) m3⟩, ⟨[], by rw [upd_ne ne1]; exact e1, .nil⟩, ⟨[], by rw [upd_ne ne2]; exact e2, .nil⟩, ⟨[], by rw [upd_ne ne3]; exact e3, .nil⟩⟩
    unfold Cds.l
    simp only [List.nodup_cons, List.mem_cons, not_or, List.not_mem_nil, not_false_eq_true, and_true, List.nodup_nil]
    exact ⟨⟨Ne.symm ne1, Ne.symm ne2, Ne.symm ne3⟩, ⟨Ne.symm d21, Ne.symm d31⟩, Ne.symm d32⟩
  have frH : ∀ b, inC ⟨p, q1, q2, q3⟩ b → H b = none := fun b z => sA.free (fr2 b z)
  have sH := sA.trans sM
  have mi : MI ⟨sd, placesF sd, [], [], []⟩ := mi0 sd0
  have pin1 : ((((L2.start N_law_model [.ref a, .int 12]).set 2 (some (.int sd))).set 3 (some v3)).set 4 (some (.ref p))).length = 8 := rfl
  have pin2 : ((((L2.start N_law_model [.ref a, .int 12]).set 2 (some (.int sd))).set 3 (some v3)).set 4 (some (.ref p)))[1]? = some (some (.int 12)) := rfl
  have pin3 : ((((L2.start N_law_model [.ref a, .int 12]).set 2 (some (.int sd))).set 3 (some v3)).set 4 (some (.ref p)))[2]? = some (some (.int sd)) := rfl
  have pin4 : ((((L2.start N_law_model [.ref a, .int 12]).set 2 (some (.int sd))).set 3 (some v3)).set 4 (some (.ref p)))[4]? = some (some (.ref p)) := rfl
  have pin0 : ((((L2.start N_law_model [.ref a, .int 12]).set 2 (some (.int sd))).set 3 (some v3)).set 4 (some (.ref p)))[0]? = some (some (.ref a)) := rfl
  show tSeq _ _ _ ((((L2.start N_law_model [.ref a, .int 12]).set 2 (some (.int sd))).set 3 (some v3)).set 4 (some (.ref p))) _
  generalize ((((L2.start N_law_model [.ref a, .int 12]).set 2 (some (.int sd))).set 3 (some v3)).set 4 (some (.ref p))) = σ at pin0 pin1 pin2 pin3 pin4
  generalize hm0 : (⟨sd, placesF sd, [], [], []⟩ : Mo) = m0 at ms mi sH sM
  have hC : (⟨p, q1, q2, q3⟩ : Cds).mo = p := rfl
  rw [← hC] at pin4
  have sd_m : m0.seed = sd := by rw [← hm0]
  have st_m : m0.states = [] := by rw [← hm0]
  generalize upd Hq3 p (.dK (moF ⟨p, q1, q2, q3⟩ m0 v3)) = Hm at *
  generalize (⟨p, q1, q2, q3⟩ : Cds) = C at *
  have zl : (ns ++ [(3 : Int), 8]).length ≤ 65 := by rw [List.length_append]; show _ + 2 ≤ _; omega
  refine u_seq (u_forE (zs := ns ++ [(3 : Int), 8]) (cells_run pin0 (SqL.same hs sH) hl) (fun q i σ' H' => σ'.length = 8 ∧ σ'[1]? = some (some (.int 12)) ∧ σ'[2]? = some (some (.int sd)) ∧ σ'[4]? = some (some (.ref C.mo)) ∧ H' q = some (.lst ((ns ++ [(3 : Int), 8]).map V.int)) ∧ ¬ inC C q ∧ Same H H' ∧ ∃ m, Ms H' C m ∧ MI m ∧ m.seed = sd ∧ m.states = []) (fun q i σ' H' z => z.2.2.2.2.1) (fun q H' nq s' e' => ⟨pin1, pin2, pin3, pin4, e', ms.alloc nq, sH.trans s', m0, ms.same s', mi, sd_m, st_m⟩) (fun q i z σ' H' T hz a nT => ?_) (fun q σ' H' a => ?_))
  · obtain ⟨g1, g2, g3, g4, g5, g6, g7, m, ms, mi, e1, e2⟩ := a
    have hil := (List.getElem?_eq_some_iff.mp hz).1
    have tl := mi.tl
    have sT := Same.new (o := HO.tup [V.int (i : Nat), V.int z]) nT
    have ms := ms.same sT
    have g5 := sT _ _ g5
    have g7 := g7.trans sT
    generalize upd H' T (.tup [V.int (i : Nat), V.int z]) = H5 at ms g5 g7
    have h1 : ((σ'.set 5 (some (.int (i : Nat)))).set 6 (some (.int z))).length = 8 := by rw [List.length_set, List.length_set]; exact g1
    have h2 : ((σ'.set 5 (some (.int (i : Nat)))).set 6 (some (.int z)))[1]? = some (some (.int 12)) := by rw [List.getElem?_set_ne (by decide), List.getElem?_set_ne (by decide)]; exact g2
    have h3 : ((σ'.set 5 (some (.int (i : Nat)))).set 6 (some (.int z)))[2]? = some (some (.int sd)) := by rw [List.getElem?_set_ne (by decide), List.getElem?_set_ne (by decide)]; exact g3
    have h4 : ((σ'.set 5 (some (.int (i : Nat)))).set 6 (some (.int z)))[4]? = some (some (.ref C.mo)) := by rw [List.getElem?_set_ne (by decide), List.getElem?_set_ne (by decide)]; exact g4
    have h5 : ((σ'.set 5 (some (.int (i : Nat)))).set 6 (some (.int z)))[5]? = some (some (.int (i : Nat))) := by rw [List.getElem?_set_ne (by decide), List.getElem?_set_self (by omega)]
    have h6 : ((σ'.set 5 (some (.int (i : Nat)))).set 6 (some (.int z)))[6]? = some (some (.int z)) := by rw [List.getElem?_set_self (by rw [List.length_set]; omega)]
    generalize (σ'.set 5 (some (.int (i : Nat)))).set 6 (some (.int z)) = σ5 at h1 h2 h3 h4 h5 h6
    have rz : Rz mt [none, some (.int 12), some (.int sd), none, some m.d, some (.int (i : Nat)), some (.int z), none] σ5 H5 := (((((Rz.none_ h1).pin h2 (.int 12)).pin h3 (.int sd)).pin h4 ms.dm).pin h5 (.int _)).pin h6 (.int z)
    try dsimp only
    refine u_seq (u_asg (d := .int (drawnF z (i : Nat))) (ev_call (ea_cons (ev_var rfl) (ea_cons (ev_var rfl) ea_nil)) ⟨z, (i : Nat), by omega, by omega, rfl, rfl⟩) rz fun v7 H7 s7 m7 rz => ?_)
    have j1 : (σ5.set 7 (some v7)).length = 8 := by rw [List.length_set]; exact h1
    have j2 : (σ5.set 7 (some v7))[1]? = some (some (.int 12)) := by rw [List.getElem?_set_ne (by decide)]; exact h2
    have j3 : (σ5.set 7 (some v7))[2]? = some (some (.int sd)) := by rw [List.getElem?_set_ne (by decide)]; exact h3
    have j4 : (σ5.set 7 (some v7))[4]? = some (some (.ref C.mo)) := by rw [List.getElem?_set_ne (by decide)]; exact h4
    have ms := ms.same s7
    have g5 := s7 _ _ g5
    have g7 := g7.trans s7
    have fin : ∀ H9 m', Fr (inC C) H7 H9 → Ms H9 C m' → MI m' → Ext m m' → (σ5.set 7 (some v7)).length = 8 ∧ (σ5.set 7 (some v7))[1]? = some (some (.int 12)) ∧ (σ5.set 7 (some v7))[2]? = some (some (.int sd)) ∧ (σ5.set 7 (some v7))[4]? = some (some (.ref C.mo)) ∧ H9 q = some (.lst ((ns ++ [(3 : Int), 8]).map V.int)) ∧ ¬ inC C q ∧ Same H H9 ∧ ∃ m, Ms H9 C m ∧ MI m ∧ m.seed = sd ∧ m.states = [] := fun H9 m' f msn min ext => ⟨j1, j2, j3, j4, f _ _ g6 g5, g6, Same.fr g7 f frH, m', msn, min, ext.seed.trans e1, ext.states.trans e2⟩
    try dsimp only
    refine u_if (b := decide (drawnF z (i : Nat) % 3 < 2) && decide (((m.things.map Thing.d).length : Int) < 12)) (et_and (et_test (ev_op (ev_op (ev_var rfl) ev_int (rd_ic (by decide))) ev_int rd_ib)) (fun _ => et_test (ev_op (ev_cb (ea_cons (ev_things (ev_var rfl)) ea_nil) cd_lenL) (ev_var rfl) rd_ib))) rz (fun hb H8 s8 rz => ?_) (fun hb H8 s8 rz => ?_)
    · have hlt : m.things.length < 12 := by
        have := of_decide_eq_true (Bool.and_eq_true_iff.mp hb).2
        rw [List.length_map] at this
        omega
      try dsimp only
      refine u_callM j4 (ea_cons (ev_op (ev_var rfl) ev_int (rd_ic ⟨by decide, by decide⟩)) ea_nil) rz fun vs H9 s9 mvs => ?_
      cases mvs with | cons n1 mvs =>
      cases mvs
      cases n1
      exact ⟨C, m, _, ms.same (s8.trans s9), mi, hlt, rfl, fun H10 m' f msn min ext => fin H10 m' ((Fr.of (s8.trans s9)).trans f) msn min ext⟩
    · try dsimp only
      refine u_callM j4 (ea_cons (ev_op (ev_var rfl) ev_int (rd_ic ⟨by decide, by decide⟩)) (ea_cons (ev_var rfl) ea_nil)) rz fun vs H9 s9 mvs => ?_
      cases mvs with | cons n1 mvs =>
      cases mvs with | cons n2 mvs =>
      cases mvs
      cases n1
      cases n2
      exact ⟨C, m, _, ms.same (s8.trans s9), mi, rfl, fun H10 m' f msn min ext => fin H10 m' ((Fr.of (s8.trans s9)).trans f) msn min ext⟩
  · obtain ⟨g1, g2, g3, g4, g5, g6, g7, m, ms, mi, e1, e2⟩ := a
    have c0 : 0 ≤ sd / 8 % 6 := Int.emod_nonneg _ (by decide)
    have c1 : sd / 8 % 6 < 6 := Int.emod_lt_of_pos _ (by decide)
    have ec : (((sd / 8 % 6).toNat : Nat) : Int) = sd / 8 % 6 := Int.toNat_of_nonneg c0
    have rz : Rz mt [none, none, some (.int sd), none, none, none, none, none] σ' H' := (Rz.none_ g1).pin g3 (.int sd)
    try dsimp only
    refine u_seq (u_forR (n := (sd / 8 % 6).toNat) (ea_cons ((ev_op (ev_op (ev_var rfl) ev_int (rd_ic ⟨by decide, by decide⟩)) ev_int (rd_ic (by decide))).is (congrArg D.int ec.symm)) ea_nil) rz (by omega) (fun i σ2 H2 => σ2.length = 8 ∧ σ2[2]? = some (some (.int sd)) ∧ σ2[4]? = some (some (.ref C.mo)) ∧ Same H H2 ∧ ∃ m, Ms H2 C m ∧ MI m ∧ m.seed = sd ∧ m.states.length = i ∧ ∀ (j : Nat) (p : Str × Int), m.states[j]? = some p → p.1 = wordF sd (20 + (j : Int))) (fun H2 s2 => ⟨g1, g3, g4, g7.trans s2, m, ms.same s2, mi, e1, by rw [e2]; rfl, fun j p hp => by rw [e2] at hp; simp at hp⟩) (fun i σ2 H2 hi a => ?_) (fun σ2 H2 a => ?_))
    · obtain ⟨f1, f2, f3, f4, m2, ms2, mi2, d1, d2, d3⟩ := a
      have h1 : (σ2.set 5 (some (.int (i : Int)))).length = 8 := by rw [List.length_set]; exact f1
      have h2 : (σ2.set 5 (some (.int (i : Int))))[2]? = some (some (.int sd)) := by rw [List.getElem?_set_ne (by decide)]; exact f2
      have h4 : (σ2.set 5 (some (.int (i : Int))))[4]? = some (some (.ref C.mo)) := by rw [List.getElem?_set_ne (by decide)]; exact f3
      have h5 : (σ2.set 5 (some (.int (i : Int))))[5]? = some (some (.int (i : Int))) := by rw [List.getElem?_set_self (by omega)]
      generalize σ2.set 5 (some (.int (i : Int))) = σ5 at h1 h2 h4 h5
      have rz : Rz mt [none, none, some (.int sd), none, some m2.d, some (.int (i : Int)), none, none] σ5 H2 := (((Rz.none_ h1).pin h2 (.int sd)).pin h4 ms2.dm).pin h5 (.int _)
      obtain ⟨xs, exs, kxs⟩ := ms2.ss
      have hzl : xs.length < 100000 := by rw [kxs.length, List.length_map]; omega
      try dsimp only
      refine u_app (d := strowD (wordF sd (20 + (i : Int)), drawnF sd (50 + (i : Int)) % 10)) (fun Q q => ms_at ms2 h4 (v := .ref C.ss) 4 (by decide +kernel) (fun _ => rfl) _ (Same.refl _) Q q) (ev_tup (ds := [.str (wordF sd (20 + (i : Int))), .int (drawnF sd (50 + (i : Int)) % 10)]) (ea_cons (ev_call (ea_cons (ev_var rfl) (ea_cons (ev_op ev_int (ev_var rfl) rd_ii) ea_nil)) ⟨sd, 20 + (i : Int), by omega, by omega, rfl, rfl⟩) (ea_cons (ev_op (ev_call (ea_cons (ev_var rfl) (ea_cons (ev_op ev_int (ev_var rfl) rd_ii) ea_nil)) ⟨sd, 50 + (i : Int), by omega, by omega, rfl, rfl⟩) ev_int (rd_ic (by decide))) ea_nil)) (by show 2 ≤ 100000; decide)) rz exs hzl fun vv H16 s16 m16 => ?_
      have ms3 := ms2.same s16
      have ms4 := ms3.setSs (s16 _ _ exs) (Dm.lift ms3.noTup m16 (strow_tu _))
      have hCs : inC C C.ss := by simp [inC, Cds.l]
      refine ⟨h1, h2, h4, Same.fr (f4.trans s16) (Fr.upd hCs) frH, _, ms4, mi2.st _, d1, ?_, fun j p hp => ?_⟩
      · show (m2.states ++ [_]).length = _
        rw [List.length_append, d2]
        rfl
      · have hp : (m2.states ++ [(wordF sd (20 + (i : Int)), drawnF sd (50 + (i : Int)) % 10)])[j]? = some p := hp
        rcases Nat.lt_or_ge j m2.states.length with z | z
        · rw [List.getElem?_append_left z] at hp
          exact d3 j p hp
        · rw [List.getElem?_append_right z] at hp
          have : j - m2.states.length = 0 := by
            rcases Nat.eq_zero_or_pos (j - m2.states.length) with q | q
            · exact q
            · rw [List.getElem?_eq_none (by rw [List.length_singleton]; exact q)] at hp
              cases hp
          rw [this] at hp
          cases hp
          have e : j = i := by omega
          rw [e]
    · obtain ⟨f1, f2, f3, f4, m2, ms2, mi2, d1, d2, d3⟩ := a
      exact ⟨_, f3, k H2 C m2 frH f4 ms2 mi2 ⟨by omega, fun j p hp => by rw [d1]; exact d3 j p hp⟩⟩
end Wt

namespace Wt
open PySem PySem.Spec PyProof.Rows L2
abbrev N_law : List Str := ["_law_script", "_law_model_here", "_law_world", "_law_state", "_law_own_here", "_law_k", "_law_cell"]
theorem sc_law : FnScope N_law ["_law_script"] (defScope s_law) := ⟨rfl, rfl, rfl, by decide +kernel, rfl, by decide +kernel, by decide +kernel⟩
theorem d_law {P : Program} {w : World} {K : PySem.W.Frag} {mg : Str → Option Value} {base : Heap} {S W : Addr} {f : Addr} {fd : FuncData} (F : FunW K "law" "law" s_law f fd) (T : Txt K mg S W)
    (c1 : CalF P w K mg base "_law_model" 5 ["_law_script", "_law_most"] (SpModel K))
    (c2 : CalC P w K mg base W 1 ["self", "places", "things", "ways", "states", "rules", "everies", "scenes", "ends"] (SpWInit W))
    (c3 : CalC P w K mg base S 2 ["self", "world"] (SpSInit S W))
    (c4 : CalF P w K mg base "_law_own" 1 ["_law_model_here"] (SpOwn))
    (c5 : CalF P w K mg base "_law_right" 8 ["_law_model_here", "_law_own_here", "_law_world", "_law_state"] (SpD (F_right S W)))
    (c6 : CalF P w K mg base "_law_moved" 4 ["_law_model_here", "_law_own_here", "_law_state", "_law_number"] (SpMoved S W))
    (c7 : CalF P w K mg base "_law_drawn" 1 ["_law_cell", "_law_k"] (SpD F_drawn))
    (c8 : CalF P w K mg base "_law_same" 5 ["_law_found", "_law_due"] (SpD (F_same 5)))
    (c9 : CalF P w K mg base "_law_told" 1 ["_law_own_here"] (SpD F_ltold))
    (c10 : CalM P w K mg base S "told" 1 ["self"] (SpD (F_told S W))) : FnOk P w K mg base CX0 9 f fd ["_law_script"] (SpLaw K) := by
  obtain ⟨_, _, G1, M1, K1, B1⟩ := c1.ex
  obtain ⟨_, _, G2, M2, B2⟩ := c2.ex
  obtain ⟨_, _, G3, M3, B3⟩ := c3.ex
  obtain ⟨_, _, G4, M4, K4, B4⟩ := c4.ex
  obtain ⟨_, _, G5, M5, K5, B5⟩ := c5.ex
  obtain ⟨_, _, G6, M6, K6, B6⟩ := c6.ex
  obtain ⟨_, _, G7, M7, K7, B7⟩ := c7.ex
  obtain ⟨_, _, G8, M8, K8, B8⟩ := c8.ex
  obtain ⟨_, _, G9, M9, K9, B9⟩ := c9.ex
  obtain ⟨_, _, G10, M10, B10⟩ := c10.ex
  refine F.ok sc_law (fun vs H Q E h => by obtain ⟨a, ns, hl, hs, rfl, k⟩ := h; rfl) (fun cdv A outer s0 H vs Q E hr h => ?_)
  have hu := hu_of hr

  obtain ⟨a, ns, hl, hs, rfl, k⟩ := h
  refine ⟨_, PSs.nox (pss_cons (ps_set (i := 1) sc_law.nd rfl (Or.inl rfl) (pe_call G1 (hr.mono (by decide)) rfl M1 K1 B1 .nil pass0 (pa_cons (pv 0) (pa_cons pe_int pa_nil))))
    (pss_cons (ps_set (i := 2) sc_law.nd rfl (Or.inl rfl) (pe_make M2 G2 (hr.mono (by decide)) rfl T.mgW B2 .nil pass0 (pa_cons (pe_dget hu (pv 1) pe_str (fun _ _ => rfl)) (pa_cons (pe_dget hu (pv 1) pe_str (fun _ _ => rfl)) (pa_cons (pe_dget hu (pv 1) pe_str (fun _ _ => rfl)) (pa_cons (pe_dget hu (pv 1) pe_str (fun _ _ => rfl)) (pa_cons (pe_lst pa_nil) (pa_cons (pe_lst pa_nil) (pa_cons (pe_lst pa_nil) (pa_cons (pe_lst pa_nil) pa_nil))))))))))
    (pss_cons (ps_set (i := 3) sc_law.nd rfl (Or.inl rfl) (pe_make M3 G3 (hr.mono (by decide)) rfl T.mgS B3 .nil pass0 (pa_cons (pv 2) pa_nil)))
    (pss_cons (ps_set (i := 4) sc_law.nd rfl (Or.inl rfl) (pe_call G4 (hr.mono (by decide)) rfl M4 K4 B4 .nil pass0 (pa_cons (pv 1) pa_nil)))
    (pss_cons (ps_for PassesOwn.never rfl (kEnum (K := K) (by rfl) T.enumerate (pa_cons (pe_op op_cat (pe_slice (kSlL (K := K)) (pv 0) po_none (po_some pe_int)) (pe_lst (pa_cons pe_int (pa_cons pe_int pa_nil)))) pa_nil)) (kTupG (K := K) (by rfl) (pgs_cons (pg_name (i := 5) sc_law.nd rfl (Or.inl rfl)) (pgs_cons (pg_name (i := 6) sc_law.nd rfl (Or.inl rfl)) pgs_nil))) (pss_cons (ps_if (pt_not (pt_val (pe_call G5 (hr.mono (by decide)) rfl M5 K5 B5 .nil pass0 (pa_cons (pv 1) (pa_cons (pv 4) (pa_cons (pv 2) (pa_cons (pv 3) pa_nil))))))) (pss_one (ps_ret pe_bl)) pss_nil)
    (pss_one (ps_expr (pe_call G6 (hr.mono (by decide)) rfl M6 K6 B6 .nil pass0 (pa_cons (pv 1) (pa_cons (pv 4) (pa_cons (pv 3) (pa_cons (pe_call G7 (hr.mono (by decide)) rfl M7 K7 B7 .nil pass0 (pa_cons (pv 6) (pa_cons (pe_op op_add pe_int (pv 5)) pa_nil))) pa_nil)))))))))
    (pss_one (ps_ret (pe_and (pe_call G5 (hr.mono (by decide)) rfl M5 K5 B5 .nil pass0 (pa_cons (pv 1) (pa_cons (pv 4) (pa_cons (pv 2) (pa_cons (pv 3) pa_nil))))) (pe_one (pe_call G8 (hr.mono (by decide)) rfl M8 K8 B8 .nil pass0 (pa_cons (pe_meth0 (pv 3) T.clS M10 G10 (hr.mono (by decide)) B10 .nil pass0) (pa_cons (pe_call G9 (hr.mono (by decide)) rfl M9 K9 B9 .nil pass0 (pa_cons (pv 4) pa_nil)) pa_nil)))))))))))), ?_⟩
  refine u_seq ⟨_, rfl, a, ns, hl, hs, rfl, fun H1 C m frC s1 ms mi si => ?_⟩
  have wm := mi.wm si
  have wf := init_wf wm mi
  have dmo := ms.dm
  generalize C.mo = mo at dmo
  have rz1 : Rz mt [none, some m.d, none, none, none, none, none] ((L2.start N_law [.ref a]).set 1 (some (.ref mo))) H1 := (RzL.no (.on dmo (.no (.no (.no (.no (.no .nil))))))).rz
  try dsimp only
  have hv : EvA (tCons (tDGet (tVar 1) (tC (.str "places"))) (tCons (tDGet (tVar 1) (tC (.str "things"))) (tCons (tDGet (tVar 1) (tC (.str "ways"))) (tCons (tDGet (tVar 1) (tC (.str "states"))) (tCons (tLst tNil) (tCons (tLst tNil) (tCons (tLst tNil) (tCons (tLst tNil) (tNil))))))))) [none, some m.d, none, none, none, none, none] [.lst (m.places.map placeD), .lst (m.things.map Thing.d), .lst (m.ways.map Way.d), .lst (m.states.map strowD), .lst [], .lst [], .lst [], .lst []] := (ea_cons (ev_places (m := m) (ev_var rfl)) (ea_cons (ev_things (m := m) (ev_var rfl)) (ea_cons (ev_ways (m := m) (ev_var rfl)) (ea_cons (ev_states (m := m) (ev_var rfl)) (ea_cons (EvN.toD (en_lst ea_nil (Nat.zero_le _))) (ea_cons (EvN.toD (en_lst ea_nil (Nat.zero_le _))) (ea_cons (EvN.toD (en_lst ea_nil (Nat.zero_le _))) (ea_cons (EvN.toD (en_lst ea_nil (Nat.zero_le _))) ea_nil))))))))
  refine u_seq (u_make hv rz1 fun ws H2 p dx s2 mws np ndx ne => ?_)
  have npd : (upd H2 dx (.own p)) p = none := by rw [upd_ne (Ne.symm ne)]; exact np
  have sn : Same H2 (upd (upd H2 dx (.own p)) p (.ins W dx [])) := (Same.new ndx).trans (Same.new npd)
  refine ⟨p, dx, m, ws, DmL.kp (.same sn) (fun b z => .inr (by rw [show b = p from z]; exact np)) mws, upd_same, rfl, fun H4 f4 mwo => ⟨rfl, ?_⟩⟩
  have s4 : Same H2 H4 := Same.fr sn f4 fun b z => by rw [show b = p from z]; exact np
  have dmo := dmo.same (s2.trans s4)
  have sA := (s1.trans s2).trans s4
  try dsimp only
  refine u_seq (u_make1 rfl fun x dx2 nx ndx2 ne2 => ?_)
  have nxd : (upd H4 dx2 (.own x)) x = none := by rw [upd_ne (Ne.symm ne2)]; exact nx
  have sn2 : Same H4 (upd (upd H4 dx2 (.own x)) x (.ins S dx2 [])) := (Same.new ndx2).trans (Same.new nxd)
  refine ⟨x, dx2, m, .ref p, wm, upd_same, Dm.kp (.same sn2) (fun b z => .inr (by rw [show b = x from z]; exact nx)) mwo, rfl, fun H6 A hA frA f6 st => ⟨rfl, ?_⟩⟩
  have s6 : Same H4 H6 := Same.fr sn2 f6 fun b z => by rw [show b = x from z]; exact nx
  have frA4 : ∀ b, inA A b → H4 b = none := fun b z => by
    rcases frA b z with q | q
    · rw [q]; exact nx
    · exact sn2.free q
  have dmo6 : Dm (inA A) H6 (.ref mo) m.d := Dm.kp (.same s6) (fun b z => .inr (frA4 b z)) dmo
  have mwo6 : Dm (inA A) H6 (.ref p) (woD W m) := Dm.kp (.same s6) (fun b z => .inr (frA4 b z)) mwo
  rw [← hA]
  have domA := st.dom
  try dsimp only
  refine u_seq (u_call1 rfl ⟨inA A, m, .ref mo, wm, st.dom, dmo6, rfl, fun H7 B frB s7 ow => ?_⟩)
  have hoB : ∀ b, AB A B b → inA A b ∨ H6 b = none := fun b z => z.elim .inl fun q => .inr (frB b q)
  have st : St (AB A B) H7 S W A m (initS m) := st.grow s7 hoB fun b z => .inl z
  have ow : Ow (AB A B) H7 B (initS m) := ow
  have dmo : Dm (AB A B) H7 (.ref mo) m.d := Dm.kp (.same s7) hoB dmo6
  have mwo : Dm (AB A B) H7 (.ref p) (woD W m) := Dm.kp (.same s7) hoB mwo6
  have dj : ∀ b, b ∈ A.l → b ∉ B.l := fun b z1 z2 => domA b z1 (frB b z2)
  have sH := ((sA.trans s6).trans s7)
  have pin0 : (((((L2.start N_law [.ref a]).set 1 (some (.ref mo))).set 2 (some (.ref p))).set 3 (some (.ref A.st))).set 4 (some (.ref B.ow)))[0]? = some (some (.ref a)) := rfl
  have pin1 : (((((L2.start N_law [.ref a]).set 1 (some (.ref mo))).set 2 (some (.ref p))).set 3 (some (.ref A.st))).set 4 (some (.ref B.ow)))[1]? = some (some (.ref mo)) := rfl
  have pin2 : (((((L2.start N_law [.ref a]).set 1 (some (.ref mo))).set 2 (some (.ref p))).set 3 (some (.ref A.st))).set 4 (some (.ref B.ow)))[2]? = some (some (.ref p)) := rfl
  have pin3 : (((((L2.start N_law [.ref a]).set 1 (some (.ref mo))).set 2 (some (.ref p))).set 3 (some (.ref A.st))).set 4 (some (.ref B.ow)))[3]? = some (some (.ref A.st)) := rfl
  have pin4 : (((((L2.start N_law [.ref a]).set 1 (some (.ref mo))).set 2 (some (.ref p))).set 3 (some (.ref A.st))).set 4 (some (.ref B.ow)))[4]? = some (some (.ref B.ow)) := rfl
  have pin5 : (((((L2.start N_law [.ref a]).set 1 (some (.ref mo))).set 2 (some (.ref p))).set 3 (some (.ref A.st))).set 4 (some (.ref B.ow))).length = 7 := rfl
  show tSeq _ _ _ (((((L2.start N_law [.ref a]).set 1 (some (.ref mo))).set 2 (some (.ref p))).set 3 (some (.ref A.st))).set 4 (some (.ref B.ow))) _
  generalize (((((L2.start N_law [.ref a]).set 1 (some (.ref mo))).set 2 (some (.ref p))).set 3 (some (.ref A.st))).set 4 (some (.ref B.ow))) = σ at pin0 pin1 pin2 pin3 pin4 pin5
  have rzOf : ∀ {σ' : L2.St} {H' : Hp} {s : Sta}, σ'.length = 7 → σ'[1]? = some (some (.ref mo)) → σ'[2]? = some (some (.ref p)) → σ'[3]? = some (some (.ref A.st)) → σ'[4]? = some (some (.ref B.ow)) → Dm (AB A B) H' (.ref mo) m.d → Dm (AB A B) H' (.ref p) (woD W m) → St (AB A B) H' S W A m s → Ow (AB A B) H' B s →
      Rz mt [none, some m.d, some (woD W m), some (stD S W m s), some s.d, none, none] σ' H' := fun g0 g1 g2 g3 g4 d1 d2 st ow => ((((Rz.none_ g0).pin g1 d1.toM).pin g2 d2.toM).pin g3 st.dm).pin g4 ow.dm
  have zl : (ns ++ [(4 : Int), 9]).length ≤ 65 := by rw [List.length_append]; show _ + 2 ≤ _; omega
  refine u_seq (u_forE (zs := ns ++ [(4 : Int), 9]) (cells_run pin0 (SqL.same hs sH) hl) (fun q i σ' H' => σ'.length = 7 ∧ σ'[1]? = some (some (.ref mo)) ∧ σ'[2]? = some (some (.ref p)) ∧ σ'[3]? = some (some (.ref A.st)) ∧ σ'[4]? = some (some (.ref B.ow)) ∧ H' q = some (.lst ((ns ++ [(4 : Int), 9]).map V.int)) ∧ ¬ AB A B q ∧ Dm (AB A B) H' (.ref mo) m.d ∧ Dm (AB A B) H' (.ref p) (woD W m) ∧ ∃ s, WF m s ∧ St (AB A B) H' S W A m s ∧ Ow (AB A B) H' B s) (fun q i σ' H' z => z.2.2.2.2.2.1) (fun q H' nq s' e' => ⟨pin5, pin1, pin2, pin3, pin4, e', fun z => z.elim (fun z => st.dom q z nq) (fun z => ow.dom q z nq), dmo.same s', mwo.same s', initS m, wf, st.same s', ow.same s'⟩) (fun q i z σ' H' T hz a nT => ?_) (fun q σ' H' a => ?_))
  · obtain ⟨g0, g1, g2, g3, g4, g5, g6, d1, d2, s, wf, st, ow⟩ := a
    have hil := (List.getElem?_eq_some_iff.mp hz).1
    have sT := Same.new (o := HO.tup [V.int (i : Nat), V.int z]) nT
    have d1 := d1.same sT
    have d2 := d2.same sT
    have st := st.same sT
    have ow := ow.same sT
    have g5 := sT _ _ g5
    generalize upd H' T (.tup [V.int (i : Nat), V.int z]) = H5 at d1 d2 st ow g5
    have h0 : ((σ'.set 5 (some (.int (i : Nat)))).set 6 (some (.int z))).length = 7 := by rw [List.length_set, List.length_set]; exact g0
    have h1 : ((σ'.set 5 (some (.int (i : Nat)))).set 6 (some (.int z)))[1]? = some (some (.ref mo)) := by rw [List.getElem?_set_ne (by decide), List.getElem?_set_ne (by decide)]; exact g1
    have h2 : ((σ'.set 5 (some (.int (i : Nat)))).set 6 (some (.int z)))[2]? = some (some (.ref p)) := by rw [List.getElem?_set_ne (by decide), List.getElem?_set_ne (by decide)]; exact g2
    have h3 : ((σ'.set 5 (some (.int (i : Nat)))).set 6 (some (.int z)))[3]? = some (some (.ref A.st)) := by rw [List.getElem?_set_ne (by decide), List.getElem?_set_ne (by decide)]; exact g3
    have h4 : ((σ'.set 5 (some (.int (i : Nat)))).set 6 (some (.int z)))[4]? = some (some (.ref B.ow)) := by rw [List.getElem?_set_ne (by decide), List.getElem?_set_ne (by decide)]; exact g4
    have h5 : ((σ'.set 5 (some (.int (i : Nat)))).set 6 (some (.int z)))[5]? = some (some (.int (i : Nat))) := by rw [List.getElem?_set_ne (by decide), List.getElem?_set_self (by omega)]
    have h6 : ((σ'.set 5 (some (.int (i : Nat)))).set 6 (some (.int z)))[6]? = some (some (.int z)) := by rw [List.getElem?_set_self (by rw [List.length_set]; omega)]
    generalize (σ'.set 5 (some (.int (i : Nat)))).set 6 (some (.int z)) = σ5 at h0 h1 h2 h3 h4 h5 h6
    have rz : Rz mt [none, some m.d, some (woD W m), some (stD S W m s), some s.d, some (.int (i : Nat)), some (.int z)] σ5 H5 := ((rzOf h0 h1 h2 h3 h4 d1 d2 st ow).pin h5 (.int _)).pin h6 (.int z)
    try dsimp only
    refine u_when (b := false) ((et_not (et_B (ev_call (ea_cons (ev_var rfl) (ea_cons (ev_var rfl) (ea_cons (ev_var rfl) (ea_cons (ev_var rfl) ea_nil)))) ⟨m, s, wf, rfl, rfl⟩))).is rfl) rz (fun z => nomatch z) fun _ H6 s6 rz => ?_
    try dsimp only
    refine ⟨_, h1, _, h4, _, h3, ?_⟩
    refine (ea_cons (ev_call (ea_cons (ev_var rfl) (ea_cons (ev_op ev_int (ev_var rfl) rd_ii) ea_nil)) ⟨z, 100 + (i : Nat), by omega, by omega, rfl, rfl⟩) ea_nil) mt _ H6 dom_mt rz _ fun vs H7 s7 mvs => ?_
    cases mvs with | cons n1 mvs =>
    cases mvs
    cases n1
    have s8 := s6.trans s7
    exact ⟨A, B, m, s, _, .ref mo, wf, dj, d1.same s8, st.same s8, ow.same s8, rfl, fun H8 s' f wf' st' ow' => ⟨h0, h1, h2, h3, h4, f _ _ g6 (s8 _ _ g5), g6, (d1.same s8).fr f (fun _ z => z), (d2.same s8).fr f (fun _ z => z), s', wf', st', ow'⟩⟩
  · obtain ⟨g0, g1, g2, g3, g4, g5, g6, d1, d2, s, wf, st, ow⟩ := a
    have rz := rzOf g0 g1 g2 g3 g4 d1 d2 st ow
    refine (ev_andV (ev_call (ea_cons (ev_var rfl) (ea_cons (ev_var rfl) (ea_cons (ev_var rfl) (ea_cons (ev_var rfl) ea_nil)))) ⟨m, s, wf, rfl, rfl⟩) (fun _ => ev_call (ea_cons (ev_meth (fs := sfs W m s) (ev_var rfl) (s_no (by decide +kernel)) ea_nil ⟨m, s, wf, rfl, rfl⟩) (ea_cons (ev_call (ea_cons (ev_var rfl) ea_nil) ⟨m, s, wf, rfl, rfl⟩) ea_nil)) ⟨toldS s, told_dp wf, rfl, rfl⟩)) mt _ H' dom_mt rz _ fun v H2 s2 m2 => ?_
    cases m2
    exact k H2
end Wt

set_option maxHeartbeats 0
namespace Wt
open PySem PySem.Spec PyProof.Rows L2
section
variable {P : Program} {w : World} {K : PySem.W.Frag} {mg : Str → Option Value} {base : Heap} {h : Heap}
theorem bindF {x qual : Str} {params : Arguments} {body : List Stmt} {scope : Scope} {f : Addr} {fd : FuncData} {k : Nat} {ps : List Str} {sp : Sp} (F : FunD K x qual params body scope [] [] f fd) (ok : FnOk P w K mg base CX0 k f fd ps sp) (g : mg x = some (.ref f)) (b : Binds K fd ps []) : CalF P w K mg base x k ps sp := ⟨⟨f, fd, ok, g, F.kp, b⟩⟩
theorem txt_ok (X : K.In h) (G : h.Ns mainGlobals mg) (c : He.SaysD fas fns K) : Txt K mg (He.ga K "State") (He.ga K "World") := by
  have nS : ∀ f, f ∈ (["tale", "rows", "rooms", "ways", "spot", "moment", "wheres", "lids", "dressed", "counts"] : List Str) → NoAttr K (He.ga K "State") f := by
    intro f hf
    rcases List.mem_cons.mp hf with rfl | hf
    · exact He.noat_ok (c.fact 62 (f := .noat "State" "tale") rfl)
    rcases List.mem_cons.mp hf with rfl | hf
    · exact He.noat_ok (c.fact 63 (f := .noat "State" "rows") rfl)
    rcases List.mem_cons.mp hf with rfl | hf
    · exact He.noat_ok (c.fact 64 (f := .noat "State" "rooms") rfl)
    rcases List.mem_cons.mp hf with rfl | hf
    · exact He.noat_ok (c.fact 65 (f := .noat "State" "ways") rfl)
    rcases List.mem_cons.mp hf with rfl | hf
    · exact He.noat_ok (c.fact 66 (f := .noat "State" "spot") rfl)
    rcases List.mem_cons.mp hf with rfl | hf
    · exact He.noat_ok (c.fact 67 (f := .noat "State" "moment") rfl)
    rcases List.mem_cons.mp hf with rfl | hf
    · exact He.noat_ok (c.fact 68 (f := .noat "State" "wheres") rfl)
    rcases List.mem_cons.mp hf with rfl | hf
    · exact He.noat_ok (c.fact 69 (f := .noat "State" "lids") rfl)
    rcases List.mem_cons.mp hf with rfl | hf
    · exact He.noat_ok (c.fact 70 (f := .noat "State" "dressed") rfl)
    rcases List.mem_cons.mp hf with rfl | hf
    · exact He.noat_ok (c.fact 71 (f := .noat "State" "counts") rfl)
    cases hf
  have nW : ∀ f, f ∈ (["told_places", "told_things", "told_ways", "told_states", "told_rules", "told_everies", "told_scenes", "told_ends"] : List Str) → NoAttr K (He.ga K "World") f := by
    intro f hf
    rcases List.mem_cons.mp hf with rfl | hf
    · exact He.noat_ok (c.fact 96 (f := .noat "World" "told_places") rfl)
    rcases List.mem_cons.mp hf with rfl | hf
    · exact He.noat_ok (c.fact 97 (f := .noat "World" "told_things") rfl)
    rcases List.mem_cons.mp hf with rfl | hf
    · exact He.noat_ok (c.fact 98 (f := .noat "World" "told_ways") rfl)
    rcases List.mem_cons.mp hf with rfl | hf
    · exact He.noat_ok (c.fact 99 (f := .noat "World" "told_states") rfl)
    rcases List.mem_cons.mp hf with rfl | hf
    · exact He.noat_ok (c.fact 100 (f := .noat "World" "told_rules") rfl)
    rcases List.mem_cons.mp hf with rfl | hf
    · exact He.noat_ok (c.fact 101 (f := .noat "World" "told_everies") rfl)
    rcases List.mem_cons.mp hf with rfl | hf
    · exact He.noat_ok (c.fact 102 (f := .noat "World" "told_scenes") rfl)
    rcases List.mem_cons.mp hf with rfl | hf
    · exact He.noat_ok (c.fact 103 (f := .noat "World" "told_ends") rfl)
    cases hf
  exact ⟨He.cls_ok (c.fact 60 (f := .cls "State") rfl), He.cls_ok (c.fact 94 (f := .cls "World") rfl), nS, nW, He.glo_ok X G (c.fact 59 (f := .glo "State") rfl), He.glo_ok X G (c.fact 93 (f := .glo "World") rfl), He.free_ok X G (c.fact 42 (f := .free "all") rfl), He.free_ok X G (c.fact 43 (f := .free "any") rfl), He.free_ok X G (c.fact 44 (f := .free "bool") rfl), He.free_ok X G (c.fact 45 (f := .free "dict") rfl), He.free_ok X G (c.fact 46 (f := .free "enumerate") rfl), He.free_ok X G (c.fact 47 (f := .free "int") rfl), He.free_ok X G (c.fact 48 (f := .free "isinstance") rfl), He.free_ok X G (c.fact 49 (f := .free "len") rfl), He.free_ok X G (c.fact 50 (f := .free "list") rfl), He.free_ok X G (c.fact 51 (f := .free "range") rfl), He.free_ok X G (c.fact 52 (f := .free "sorted") rfl), He.free_ok X G (c.fact 53 (f := .free "str") rfl), He.free_ok X G (c.fact 54 (f := .free "sum") rfl), He.free_ok X G (c.fact 55 (f := .free "tuple") rfl), He.free_ok X G (c.fact 56 (f := .free "zip") rfl), He.str_ok X G (c.fact 57 (f := .str "VOWELS" "aeiou") rfl), He.int_ok X G (c.fact 58 (f := .int "MOST_NUMBER" 9) rfl)⟩
theorem cal_law_drawn (X : K.In h) (G : h.Ns mainGlobals mg) (c : He.SaysD fas fns K) : CalF P w K mg base "_law_drawn" 1 ["_law_cell", "_law_k"] (SpD F_drawn) := by
  obtain ⟨fd, F⟩ := c.def_ 41 (d := ⟨("_law_drawn", none), "_law_drawn", "_law_drawn", defArgs s_law_drawn, defBody s_law_drawn, defScope s_law_drawn, [], []⟩) rfl
  exact bindF F (d_law_drawn F (txt_ok X G c) ) (He.glo_ok X G (c.fact 17 (f := .glo "_law_drawn") rfl)) (F.bindsN fun _ _ _ _ _ _ us hl => match us, hl with | [_, _], _ => rfl)
theorem cal_law_word (X : K.In h) (G : h.Ns mainGlobals mg) (c : He.SaysD fas fns K) : CalF P w K mg base "_law_word" 2 ["_law_seed", "_law_k"] (SpD F_word) := by
  obtain ⟨fd, F⟩ := c.def_ 42 (d := ⟨("_law_word", none), "_law_word", "_law_word", defArgs s_law_word, defBody s_law_word, defScope s_law_word, [], []⟩) rfl
  exact bindF F (d_law_word F (txt_ok X G c) (cal_law_drawn X G c)) (He.glo_ok X G (c.fact 18 (f := .glo "_law_word") rfl)) (F.bindsN fun _ _ _ _ _ _ us hl => match us, hl with | [_, _], _ => rfl)
theorem cal_law_called (X : K.In h) (G : h.Ns mainGlobals mg) (c : He.SaysD fas fns K) : CalF P w K mg base "_law_called" 3 ["_law_model_here", "_law_number"] (SpS F_called) := by
  obtain ⟨fd, F⟩ := c.def_ 43 (d := ⟨("_law_called", none), "_law_called", "_law_called", defArgs s_law_called, defBody s_law_called, defScope s_law_called, [], []⟩) rfl
  exact bindF F (d_law_called F (txt_ok X G c) (cal_law_word X G c)) (He.glo_ok X G (c.fact 19 (f := .glo "_law_called") rfl)) (F.bindsN fun _ _ _ _ _ _ us hl => match us, hl with | [_, _], _ => rfl)
theorem cal_law_holders (X : K.In h) (G : h.Ns mainGlobals mg) (c : He.SaysD fas fns K) : CalF P w K mg base "_law_holders" 1 ["_law_model_here"] (SpN F_lholders) := by
  obtain ⟨fd, F⟩ := c.def_ 44 (d := ⟨("_law_holders", none), "_law_holders", "_law_holders", defArgs s_law_holders, defBody s_law_holders, defScope s_law_holders, [], []⟩) rfl
  exact bindF F (d_law_holders F (txt_ok X G c) ) (He.glo_ok X G (c.fact 20 (f := .glo "_law_holders") rfl)) (F.bindsN fun _ _ _ _ _ _ us hl => match us, hl with | [_], _ => rfl)
theorem cal_law_add_thing (X : K.In h) (G : h.Ns mainGlobals mg) (c : He.SaysD fas fns K) : CalF P w K mg base "_law_add_thing" 4 ["_law_model_here", "_law_number"] (SpAddT) := by
  obtain ⟨fd, F⟩ := c.def_ 45 (d := ⟨("_law_add_thing", none), "_law_add_thing", "_law_add_thing", defArgs s_law_add_thing, defBody s_law_add_thing, defScope s_law_add_thing, [], []⟩) rfl
  exact bindF F (d_law_add_thing F (txt_ok X G c) (cal_law_called X G c) (cal_law_holders X G c) (cal_law_word X G c)) (He.glo_ok X G (c.fact 21 (f := .glo "_law_add_thing") rfl)) (F.bindsN fun _ _ _ _ _ _ us hl => match us, hl with | [_, _], _ => rfl)
theorem cal_law_free (X : K.In h) (G : h.Ns mainGlobals mg) (c : He.SaysD fas fns K) : CalF P w K mg base "_law_free" 1 ["_law_model_here", "_law_place"] (SpN F_free) := by
  obtain ⟨fd, F⟩ := c.def_ 46 (d := ⟨("_law_free", none), "_law_free", "_law_free", defArgs s_law_free, defBody s_law_free, defScope s_law_free, [], []⟩) rfl
  exact bindF F (d_law_free F (txt_ok X G c) ) (He.glo_ok X G (c.fact 22 (f := .glo "_law_free") rfl)) (F.bindsN fun _ _ _ _ _ _ us hl => match us, hl with | [_, _], _ => rfl)
theorem cal_law_add_way (X : K.In h) (G : h.Ns mainGlobals mg) (c : He.SaysD fas fns K) : CalF P w K mg base "_law_add_way" 4 ["_law_model_here", "_law_number", "_law_most"] (SpAddY) := by
  obtain ⟨fd, F⟩ := c.def_ 47 (d := ⟨("_law_add_way", none), "_law_add_way", "_law_add_way", defArgs s_law_add_way, defBody s_law_add_way, defScope s_law_add_way, [], []⟩) rfl
  exact bindF F (d_law_add_way F (txt_ok X G c) (cal_law_free X G c) (cal_law_word X G c) (cal_law_called X G c)) (He.glo_ok X G (c.fact 23 (f := .glo "_law_add_way") rfl)) (F.bindsN fun _ _ _ _ _ _ us hl => match us, hl with | [_, _, _], _ => rfl)
theorem cal_law_model (X : K.In h) (G : h.Ns mainGlobals mg) (c : He.SaysD fas fns K) : CalF P w K mg base "_law_model" 5 ["_law_script", "_law_most"] (SpModel K) := by
  obtain ⟨fd, F⟩ := c.def_ 48 (d := ⟨("_law_model", none), "_law_model", "_law_model", defArgs s_law_model, defBody s_law_model, defScope s_law_model, [], []⟩) rfl
  exact bindF F (d_law_model F (txt_ok X G c) (cal_law_drawn X G c) (cal_law_word X G c) (cal_law_add_thing X G c) (cal_law_add_way X G c)) (He.glo_ok X G (c.fact 24 (f := .glo "_law_model") rfl)) (F.bindsN fun _ _ _ _ _ _ us hl => match us, hl with | [_, _], _ => rfl)
theorem cal_W_init (X : K.In h) (G : h.Ns mainGlobals mg) (c : He.SaysD fas fns K) : CalC P w K mg base (He.ga K "World") 1 ["self", "places", "things", "ways", "states", "rules", "everies", "scenes", "ends"] (SpWInit (He.ga K "World")) := by
  obtain ⟨fd, F⟩ := c.def_ 39 (d := ⟨("World", some "__init__"), "__init__", "World.__init__", defArgs s_W_init, defBody s_W_init, defScope s_W_init, [], []⟩) rfl
  exact ⟨⟨_, fd, d_W_init F (txt_ok X G c) , He.mkr_ok (c.fact 95 (f := .mkr "World") rfl), (F.bindsN fun _ _ _ _ _ _ us hl => match us, hl with | [_, _, _, _, _, _, _, _, _], _ => rfl)⟩⟩
theorem cal_W_told (X : K.In h) (G : h.Ns mainGlobals mg) (c : He.SaysD fas fns K) : CalM P w K mg base (He.ga K "World") "told" 1 ["self"] (SpD (F_wtold (He.ga K "World"))) := by
  obtain ⟨fd, F⟩ := c.def_ 40 (d := ⟨("World", some "told"), "told", "World.told", defArgs s_W_told, defBody s_W_told, defScope s_W_told, [], []⟩) rfl
  exact ⟨⟨_, fd, d_W_told F (txt_ok X G c) , He.meth_ok (c.fact 104 (f := .meth "World" "told") rfl), (F.bindsN fun _ _ _ _ _ _ us hl => match us, hl with | [_], _ => rfl)⟩⟩
theorem cal_S_init (X : K.In h) (G : h.Ns mainGlobals mg) (c : He.SaysD fas fns K) : CalC P w K mg base (He.ga K "State") 2 ["self", "world"] (SpSInit (He.ga K "State") (He.ga K "World")) := by
  obtain ⟨fd, F⟩ := c.def_ 17 (d := ⟨("State", some "__init__"), "__init__", "State.__init__", defArgs s_S_init, defBody s_S_init, defScope s_S_init, [], []⟩) rfl
  exact ⟨⟨_, fd, d_S_init F (txt_ok X G c) (cal_W_told X G c), He.mkr_ok (c.fact 61 (f := .mkr "State") rfl), (F.bindsN fun _ _ _ _ _ _ us hl => match us, hl with | [_, _], _ => rfl)⟩⟩
theorem cal_law_own (X : K.In h) (G : h.Ns mainGlobals mg) (c : He.SaysD fas fns K) : CalF P w K mg base "_law_own" 1 ["_law_model_here"] (SpOwn) := by
  obtain ⟨fd, F⟩ := c.def_ 50 (d := ⟨("_law_own", none), "_law_own", "_law_own", defArgs s_law_own, defBody s_law_own, defScope s_law_own, [], []⟩) rfl
  exact bindF F (d_law_own F (txt_ok X G c) ) (He.glo_ok X G (c.fact 26 (f := .glo "_law_own") rfl)) (F.bindsN fun _ _ _ _ _ _ us hl => match us, hl with | [_], _ => rfl)
theorem cal_law_marked (X : K.In h) (G : h.Ns mainGlobals mg) (c : He.SaysD fas fns K) : CalF P w K mg base "_law_marked" 1 ["_law_model_here", "_law_own_here"] (SpM F_marked) := by
  obtain ⟨fd, F⟩ := c.def_ 54 (d := ⟨("_law_marked", none), "_law_marked", "_law_marked", defArgs s_law_marked, defBody s_law_marked, defScope s_law_marked, [], []⟩) rfl
  exact bindF F (d_law_marked F (txt_ok X G c) ) (He.glo_ok X G (c.fact 30 (f := .glo "_law_marked") rfl)) (F.bindsN fun _ _ _ _ _ _ us hl => match us, hl with | [_, _], _ => rfl)
theorem cal_law_doors (X : K.In h) (G : h.Ns mainGlobals mg) (c : He.SaysD fas fns K) : CalF P w K mg base "_law_doors" 1 ["_law_model_here", "_law_place"] (SpN F_ldoors) := by
  obtain ⟨fd, F⟩ := c.def_ 55 (d := ⟨("_law_doors", none), "_law_doors", "_law_doors", defArgs s_law_doors, defBody s_law_doors, defScope s_law_doors, [], []⟩) rfl
  exact bindF F (d_law_doors F (txt_ok X G c) ) (He.glo_ok X G (c.fact 31 (f := .glo "_law_doors") rfl)) (F.bindsN fun _ _ _ _ _ _ us hl => match us, hl with | [_, _], _ => rfl)
theorem cal_law_lit (X : K.In h) (G : h.Ns mainGlobals mg) (c : He.SaysD fas fns K) : CalF P w K mg base "_law_lit" 2 ["_law_model_here", "_law_own_here", "_law_marked_here", "_law_place"] (SpD F_llit) := by
  obtain ⟨fd, F⟩ := c.def_ 56 (d := ⟨("_law_lit", none), "_law_lit", "_law_lit", defArgs s_law_lit, defBody s_law_lit, defScope s_law_lit, [], []⟩) rfl
  exact bindF F (d_law_lit F (txt_ok X G c) (cal_law_doors X G c)) (He.glo_ok X G (c.fact 32 (f := .glo "_law_lit") rfl)) (F.bindsN fun _ _ _ _ _ _ us hl => match us, hl with | [_, _, _, _], _ => rfl)
theorem cal_law_seen (X : K.In h) (G : h.Ns mainGlobals mg) (c : He.SaysD fas fns K) : CalF P w K mg base "_law_seen" 3 ["_law_model_here", "_law_own_here", "_law_marked_here"] (SpN F_lseen) := by
  obtain ⟨fd, F⟩ := c.def_ 57 (d := ⟨("_law_seen", none), "_law_seen", "_law_seen", defArgs s_law_seen, defBody s_law_seen, defScope s_law_seen, [], []⟩) rfl
  exact bindF F (d_law_seen F (txt_ok X G c) (cal_law_lit X G c) (cal_law_doors X G c)) (He.glo_ok X G (c.fact 33 (f := .glo "_law_seen") rfl)) (F.bindsN fun _ _ _ _ _ _ us hl => match us, hl with | [_, _, _], _ => rfl)
theorem cal_law_ways_row (X : K.In h) (G : h.Ns mainGlobals mg) (c : He.SaysD fas fns K) : CalF P w K mg base "_law_ways_row" 1 ["_law_model_here", "_law_own_here"] (SpN F_lways) := by
  obtain ⟨fd, F⟩ := c.def_ 61 (d := ⟨("_law_ways_row", none), "_law_ways_row", "_law_ways_row", defArgs s_law_ways_row, defBody s_law_ways_row, defScope s_law_ways_row, [], []⟩) rfl
  exact bindF F (d_law_ways_row F (txt_ok X G c) ) (He.glo_ok X G (c.fact 37 (f := .glo "_law_ways_row") rfl)) (F.bindsN fun _ _ _ _ _ _ us hl => match us, hl with | [_, _], _ => rfl)
theorem cal_law_joined (X : K.In h) (G : h.Ns mainGlobals mg) (c : He.SaysD fas fns K) : CalF P w K mg base "_law_joined" 1 ["_law_texts", "_law_word_here"] (SpD F_ljoin) := by
  obtain ⟨fd, F⟩ := c.def_ 60 (d := ⟨("_law_joined", none), "_law_joined", "_law_joined", defArgs s_law_joined, defBody s_law_joined, defScope s_law_joined, [], []⟩) rfl
  exact bindF F (d_law_joined F (txt_ok X G c) ) (He.glo_ok X G (c.fact 36 (f := .glo "_law_joined") rfl)) (F.bindsN fun _ _ _ _ _ _ us hl => match us, hl with | [_, _], _ => rfl)
theorem cal_law_words (X : K.In h) (G : h.Ns mainGlobals mg) (c : He.SaysD fas fns K) : CalF P w K mg base "_law_words" 1 ["_law_model_here", "_law_thing"] (SpD F_lwords) := by
  obtain ⟨fd, F⟩ := c.def_ 58 (d := ⟨("_law_words", none), "_law_words", "_law_words", defArgs s_law_words, defBody s_law_words, defScope s_law_words, [], []⟩) rfl
  exact bindF F (d_law_words F (txt_ok X G c) ) (He.glo_ok X G (c.fact 34 (f := .glo "_law_words") rfl)) (F.bindsN fun _ _ _ _ _ _ us hl => match us, hl with | [_, _], _ => rfl)
theorem cal_law_a (X : K.In h) (G : h.Ns mainGlobals mg) (c : He.SaysD fas fns K) : CalF P w K mg base "_law_a" 2 ["_law_model_here", "_law_thing"] (SpD F_la) := by
  obtain ⟨fd, F⟩ := c.def_ 59 (d := ⟨("_law_a", none), "_law_a", "_law_a", defArgs s_law_a, defBody s_law_a, defScope s_law_a, [], []⟩) rfl
  exact bindF F (d_law_a F (txt_ok X G c) (cal_law_words X G c)) (He.glo_ok X G (c.fact 35 (f := .glo "_law_a") rfl)) (F.bindsN fun _ _ _ _ _ _ us hl => match us, hl with | [_, _], _ => rfl)
theorem cal_law_look (X : K.In h) (G : h.Ns mainGlobals mg) (c : He.SaysD fas fns K) : CalF P w K mg base "_law_look" 4 ["_law_model_here", "_law_own_here", "_law_marked_here"] (SpD F_llook) := by
  obtain ⟨fd, F⟩ := c.def_ 62 (d := ⟨("_law_look", none), "_law_look", "_law_look", defArgs s_law_look, defBody s_law_look, defScope s_law_look, [], []⟩) rfl
  exact bindF F (d_law_look F (txt_ok X G c) (cal_law_lit X G c) (cal_law_seen X G c) (cal_law_ways_row X G c) (cal_law_doors X G c) (cal_law_joined X G c) (cal_law_a X G c) (cal_law_words X G c)) (He.glo_ok X G (c.fact 38 (f := .glo "_law_look") rfl)) (F.bindsN fun _ _ _ _ _ _ us hl => match us, hl with | [_, _, _], _ => rfl)
theorem cal_S_need_thing (X : K.In h) (G : h.Ns mainGlobals mg) (c : He.SaysD fas fns K) : CalM P w K mg base (He.ga K "State") "need_thing" 1 ["self", "thing"] (SpD (F_need (He.ga K "State") (He.ga K "World"))) := by
  obtain ⟨fd, F⟩ := c.def_ 22 (d := ⟨("State", some "need_thing"), "need_thing", "State.need_thing", defArgs s_S_need_thing, defBody s_S_need_thing, defScope s_S_need_thing, [], []⟩) rfl
  exact ⟨⟨_, fd, d_S_need_thing F (txt_ok X G c) , He.meth_ok (c.fact 76 (f := .meth "State" "need_thing") rfl), (F.bindsN fun _ _ _ _ _ _ us hl => match us, hl with | [_, _], _ => rfl)⟩⟩
theorem cal_S_where (X : K.In h) (G : h.Ns mainGlobals mg) (c : He.SaysD fas fns K) : CalM P w K mg base (He.ga K "State") "where" 2 ["self", "thing"] (SpD (F_where (He.ga K "State") (He.ga K "World"))) := by
  obtain ⟨fd, F⟩ := c.def_ 25 (d := ⟨("State", some "where"), "where", "State.where", defArgs s_S_where, defBody s_S_where, defScope s_S_where, [], []⟩) rfl
  exact ⟨⟨_, fd, d_S_where F (txt_ok X G c) (cal_S_need_thing X G c), He.meth_ok (c.fact 79 (f := .meth "State" "where") rfl), (F.bindsN fun _ _ _ _ _ _ us hl => match us, hl with | [_, _], _ => rfl)⟩⟩
theorem cal_words_for (X : K.In h) (G : h.Ns mainGlobals mg) (c : He.SaysD fas fns K) : CalF P w K mg base "words_for" 2 ["world", "thing"] (SpD (F_words (He.ga K "World"))) := by
  obtain ⟨fd, F⟩ := c.def_ 7 (d := ⟨("words_for", none), "words_for", "words_for", defArgs s_words_for, defBody s_words_for, defScope s_words_for, [], []⟩) rfl
  exact bindF F (d_words_for F (txt_ok X G c) (cal_W_told X G c)) (He.glo_ok X G (c.fact 7 (f := .glo "words_for") rfl)) (F.bindsN fun _ _ _ _ _ _ us hl => match us, hl with | [_, _], _ => rfl)
theorem cal_a_name (X : K.In h) (G : h.Ns mainGlobals mg) (c : He.SaysD fas fns K) : CalF P w K mg base "a_name" 3 ["world", "thing"] (SpD (F_a (He.ga K "World"))) := by
  obtain ⟨fd, F⟩ := c.def_ 9 (d := ⟨("a_name", none), "a_name", "a_name", defArgs s_a_name, defBody s_a_name, defScope s_a_name, [], []⟩) rfl
  exact bindF F (d_a_name F (txt_ok X G c) (cal_words_for X G c)) (He.glo_ok X G (c.fact 9 (f := .glo "a_name") rfl)) (F.bindsN fun _ _ _ _ _ _ us hl => match us, hl with | [_, _], _ => rfl)
theorem cal_S_is_worn (X : K.In h) (G : h.Ns mainGlobals mg) (c : He.SaysD fas fns K) : CalM P w K mg base (He.ga K "State") "is_worn" 2 ["self", "thing"] (SpD (F_isworn (He.ga K "State") (He.ga K "World"))) := by
  obtain ⟨fd, F⟩ := c.def_ 27 (d := ⟨("State", some "is_worn"), "is_worn", "State.is_worn", defArgs s_S_is_worn, defBody s_S_is_worn, defScope s_S_is_worn, [], []⟩) rfl
  exact ⟨⟨_, fd, d_S_is_worn F (txt_ok X G c) (cal_S_need_thing X G c), He.meth_ok (c.fact 81 (f := .meth "State" "is_worn") rfl), (F.bindsN fun _ _ _ _ _ _ us hl => match us, hl with | [_, _], _ => rfl)⟩⟩
theorem cal_joined_by (X : K.In h) (G : h.Ns mainGlobals mg) (c : He.SaysD fas fns K) : CalF P w K mg base "joined_by" 1 ["texts", "word"] (SpD F_joinby) := by
  obtain ⟨fd, F⟩ := c.def_ 10 (d := ⟨("joined_by", none), "joined_by", "joined_by", defArgs s_joined_by, defBody s_joined_by, defScope s_joined_by, [], []⟩) rfl
  exact bindF F (d_joined_by F (txt_ok X G c) ) (He.glo_ok X G (c.fact 10 (f := .glo "joined_by") rfl)) (F.bindsN fun _ _ _ _ _ _ us hl => match us, hl with | [_, _], _ => rfl)
theorem cal_joined_names (X : K.In h) (G : h.Ns mainGlobals mg) (c : He.SaysD fas fns K) : CalF P w K mg base "joined_names" 2 ["texts"] (SpD F_join) := by
  obtain ⟨fd, F⟩ := c.def_ 11 (d := ⟨("joined_names", none), "joined_names", "joined_names", defArgs s_joined_names, defBody s_joined_names, defScope s_joined_names, [], []⟩) rfl
  exact bindF F (d_joined_names F (txt_ok X G c) (cal_joined_by X G c)) (He.glo_ok X G (c.fact 11 (f := .glo "joined_names") rfl)) (F.bindsN fun _ _ _ _ _ _ us hl => match us, hl with | [_], _ => rfl)
theorem cal_hold_lines (X : K.In h) (G : h.Ns mainGlobals mg) (c : He.SaysD fas fns K) : CalF P w K mg base "hold_lines" 4 ["world", "state"] (SpN (F_hold (He.ga K "State") (He.ga K "World"))) := by
  obtain ⟨fd, F⟩ := c.def_ 15 (d := ⟨("hold_lines", none), "hold_lines", "hold_lines", defArgs s_hold_lines, defBody s_hold_lines, defScope s_hold_lines, [], []⟩) rfl
  exact bindF F (d_hold_lines F (txt_ok X G c) (cal_W_told X G c) (cal_S_where X G c) (cal_a_name X G c) (cal_S_is_worn X G c) (cal_joined_names X G c)) (He.glo_ok X G (c.fact 15 (f := .glo "hold_lines") rfl)) (F.bindsN fun _ _ _ _ _ _ us hl => match us, hl with | [_, _], _ => rfl)
theorem cal_S_here (X : K.In h) (G : h.Ns mainGlobals mg) (c : He.SaysD fas fns K) : CalM P w K mg base (He.ga K "State") "here" 1 ["self"] (SpD (F_here (He.ga K "State") (He.ga K "World"))) := by
  obtain ⟨fd, F⟩ := c.def_ 23 (d := ⟨("State", some "here"), "here", "State.here", defArgs s_S_here, defBody s_S_here, defScope s_S_here, [], []⟩) rfl
  exact ⟨⟨_, fd, d_S_here F (txt_ok X G c) , He.meth_ok (c.fact 77 (f := .meth "State" "here") rfl), (F.bindsN fun _ _ _ _ _ _ us hl => match us, hl with | [_], _ => rfl)⟩⟩
theorem cal_S_is_dark (X : K.In h) (G : h.Ns mainGlobals mg) (c : He.SaysD fas fns K) : CalM P w K mg base (He.ga K "State") "is_dark" 1 ["self", "place"] (SpD (F_dark (He.ga K "State") (He.ga K "World"))) := by
  obtain ⟨fd, F⟩ := c.def_ 20 (d := ⟨("State", some "is_dark"), "is_dark", "State.is_dark", defArgs s_S_is_dark, defBody s_S_is_dark, defScope s_S_is_dark, [], []⟩) rfl
  exact ⟨⟨_, fd, d_S_is_dark F (txt_ok X G c) , He.meth_ok (c.fact 74 (f := .meth "State" "is_dark") rfl), (F.bindsN fun _ _ _ _ _ _ us hl => match us, hl with | [_, _], _ => rfl)⟩⟩
theorem cal_S_doors_of (X : K.In h) (G : h.Ns mainGlobals mg) (c : He.SaysD fas fns K) : CalM P w K mg base (He.ga K "State") "doors_of" 2 ["self", "place"] (SpN (F_doors (He.ga K "State") (He.ga K "World"))) := by
  obtain ⟨fd, F⟩ := c.def_ 21 (d := ⟨("State", some "doors_of"), "doors_of", "State.doors_of", defArgs s_S_doors_of, defBody s_S_doors_of, defScope s_S_doors_of, [], []⟩) rfl
  exact ⟨⟨_, fd, d_S_doors_of F (txt_ok X G c) (cal_S_is_dark X G c), He.meth_ok (c.fact 75 (f := .meth "State" "doors_of") rfl), (F.bindsN fun _ _ _ _ _ _ us hl => match us, hl with | [_, _], _ => rfl)⟩⟩
theorem cal_S_all_things (X : K.In h) (G : h.Ns mainGlobals mg) (c : He.SaysD fas fns K) : CalM P w K mg base (He.ga K "State") "all_things" 1 ["self"] (SpN (F_all (He.ga K "State") (He.ga K "World"))) := by
  obtain ⟨fd, F⟩ := c.def_ 18 (d := ⟨("State", some "all_things"), "all_things", "State.all_things", defArgs s_S_all_things, defBody s_S_all_things, defScope s_S_all_things, [], []⟩) rfl
  exact ⟨⟨_, fd, d_S_all_things F (txt_ok X G c) , He.meth_ok (c.fact 72 (f := .meth "State" "all_things") rfl), (F.bindsN fun _ _ _ _ _ _ us hl => match us, hl with | [_], _ => rfl)⟩⟩
theorem cal_S_is_open (X : K.In h) (G : h.Ns mainGlobals mg) (c : He.SaysD fas fns K) : CalM P w K mg base (He.ga K "State") "is_open" 2 ["self", "thing"] (SpD (F_isopen (He.ga K "State") (He.ga K "World"))) := by
  obtain ⟨fd, F⟩ := c.def_ 26 (d := ⟨("State", some "is_open"), "is_open", "State.is_open", defArgs s_S_is_open, defBody s_S_is_open, defScope s_S_is_open, [], []⟩) rfl
  exact ⟨⟨_, fd, d_S_is_open F (txt_ok X G c) (cal_S_need_thing X G c), He.meth_ok (c.fact 80 (f := .meth "State" "is_open") rfl), (F.bindsN fun _ _ _ _ _ _ us hl => match us, hl with | [_, _], _ => rfl)⟩⟩
theorem cal_shut_boxes (X : K.In h) (G : h.Ns mainGlobals mg) (c : He.SaysD fas fns K) : CalF P w K mg base "shut_boxes" 3 ["state", "thing"] (SpN (F_shut (He.ga K "State") (He.ga K "World"))) := by
  obtain ⟨fd, F⟩ := c.def_ 2 (d := ⟨("shut_boxes", none), "shut_boxes", "shut_boxes", defArgs s_shut_boxes, defBody s_shut_boxes, defScope s_shut_boxes, [], []⟩) rfl
  exact bindF F (d_shut_boxes F (txt_ok X G c) (cal_S_where X G c) (cal_S_is_open X G c)) (He.glo_ok X G (c.fact 2 (f := .glo "shut_boxes") rfl)) (F.bindsN fun _ _ _ _ _ _ us hl => match us, hl with | [_, _], _ => rfl)
theorem cal_S_has_trait (X : K.In h) (G : h.Ns mainGlobals mg) (c : He.SaysD fas fns K) : CalM P w K mg base (He.ga K "State") "has_trait" 2 ["self", "thing", "trait"] (SpD (F_has (He.ga K "State") (He.ga K "World"))) := by
  obtain ⟨fd, F⟩ := c.def_ 19 (d := ⟨("State", some "has_trait"), "has_trait", "State.has_trait", defArgs s_S_has_trait, defBody s_S_has_trait, defScope s_S_has_trait, [], []⟩) rfl
  exact ⟨⟨_, fd, d_S_has_trait F (txt_ok X G c) (cal_S_need_thing X G c), He.meth_ok (c.fact 73 (f := .meth "State" "has_trait") rfl), (F.bindsN fun _ _ _ _ _ _ us hl => match us, hl with | [_, _, _], _ => rfl)⟩⟩
theorem cal_is_hidden (X : K.In h) (G : h.Ns mainGlobals mg) (c : He.SaysD fas fns K) : CalF P w K mg base "is_hidden" 4 ["state", "thing"] (SpD (F_hid (He.ga K "State") (He.ga K "World"))) := by
  obtain ⟨fd, F⟩ := c.def_ 3 (d := ⟨("is_hidden", none), "is_hidden", "is_hidden", defArgs s_is_hidden, defBody s_is_hidden, defScope s_is_hidden, [], []⟩) rfl
  exact bindF F (d_is_hidden F (txt_ok X G c) (cal_shut_boxes X G c) (cal_S_has_trait X G c)) (He.glo_ok X G (c.fact 3 (f := .glo "is_hidden") rfl)) (F.bindsN fun _ _ _ _ _ _ us hl => match us, hl with | [_, _], _ => rfl)
theorem cal_holder_chain (X : K.In h) (G : h.Ns mainGlobals mg) (c : He.SaysD fas fns K) : CalF P w K mg base "holder_chain" 3 ["state", "thing"] (SpN (F_chain (He.ga K "State") (He.ga K "World"))) := by
  obtain ⟨fd, F⟩ := c.def_ 0 (d := ⟨("holder_chain", none), "holder_chain", "holder_chain", defArgs s_holder_chain, defBody s_holder_chain, defScope s_holder_chain, [], []⟩) rfl
  exact bindF F (d_holder_chain F (txt_ok X G c) (cal_S_where X G c)) (He.glo_ok X G (c.fact 0 (f := .glo "holder_chain") rfl)) (F.bindsN fun _ _ _ _ _ _ us hl => match us, hl with | [_, _], _ => rfl)
theorem cal_root_of (X : K.In h) (G : h.Ns mainGlobals mg) (c : He.SaysD fas fns K) : CalF P w K mg base "root_of" 4 ["state", "thing"] (SpD (F_root (He.ga K "State") (He.ga K "World"))) := by
  obtain ⟨fd, F⟩ := c.def_ 1 (d := ⟨("root_of", none), "root_of", "root_of", defArgs s_root_of, defBody s_root_of, defScope s_root_of, [], []⟩) rfl
  exact bindF F (d_root_of F (txt_ok X G c) (cal_S_where X G c) (cal_holder_chain X G c)) (He.glo_ok X G (c.fact 1 (f := .glo "root_of") rfl)) (F.bindsN fun _ _ _ _ _ _ us hl => match us, hl with | [_, _], _ => rfl)
theorem cal_is_lit (X : K.In h) (G : h.Ns mainGlobals mg) (c : He.SaysD fas fns K) : CalF P w K mg base "is_lit" 5 ["state", "place"] (SpD (F_lit (He.ga K "State") (He.ga K "World"))) := by
  obtain ⟨fd, F⟩ := c.def_ 5 (d := ⟨("is_lit", none), "is_lit", "is_lit", defArgs s_is_lit, defBody s_is_lit, defScope s_is_lit, [], []⟩) rfl
  exact bindF F (d_is_lit F (txt_ok X G c) (cal_S_is_dark X G c) (cal_S_here X G c) (cal_S_doors_of X G c) (cal_S_all_things X G c) (cal_is_hidden X G c) (cal_S_has_trait X G c) (cal_root_of X G c)) (He.glo_ok X G (c.fact 5 (f := .glo "is_lit") rfl)) (F.bindsN fun _ _ _ _ _ _ us hl => match us, hl with | [_, _], _ => rfl)
theorem cal_seen_things (X : K.In h) (G : h.Ns mainGlobals mg) (c : He.SaysD fas fns K) : CalF P w K mg base "seen_things" 6 ["state"] (SpN (F_seen (He.ga K "State") (He.ga K "World"))) := by
  obtain ⟨fd, F⟩ := c.def_ 6 (d := ⟨("seen_things", none), "seen_things", "seen_things", defArgs s_seen_things, defBody s_seen_things, defScope s_seen_things, [], []⟩) rfl
  exact bindF F (d_seen_things F (txt_ok X G c) (cal_S_here X G c) (cal_is_lit X G c) (cal_S_doors_of X G c) (cal_S_all_things X G c) (cal_is_hidden X G c) (cal_root_of X G c)) (He.glo_ok X G (c.fact 6 (f := .glo "seen_things") rfl)) (F.bindsN fun _ _ _ _ _ _ us hl => match us, hl with | [_], _ => rfl)
theorem cal_ways_line (X : K.In h) (G : h.Ns mainGlobals mg) (c : He.SaysD fas fns K) : CalF P w K mg base "ways_line" 3 ["world", "state"] (SpN (F_waysl (He.ga K "State") (He.ga K "World"))) := by
  obtain ⟨fd, F⟩ := c.def_ 12 (d := ⟨("ways_line", none), "ways_line", "ways_line", defArgs s_ways_line, defBody s_ways_line, defScope s_ways_line, [], []⟩) rfl
  exact bindF F (d_ways_line F (txt_ok X G c) (cal_W_told X G c) (cal_S_here X G c) (cal_S_is_open X G c)) (He.glo_ok X G (c.fact 12 (f := .glo "ways_line") rfl)) (F.bindsN fun _ _ _ _ _ _ us hl => match us, hl with | [_, _], _ => rfl)
theorem cal_doors_at (X : K.In h) (G : h.Ns mainGlobals mg) (c : He.SaysD fas fns K) : CalF P w K mg base "doors_at" 3 ["state", "place"] (SpN (F_doors (He.ga K "State") (He.ga K "World"))) := by
  obtain ⟨fd, F⟩ := c.def_ 4 (d := ⟨("doors_at", none), "doors_at", "doors_at", defArgs s_doors_at, defBody s_doors_at, defScope s_doors_at, [], []⟩) rfl
  exact bindF F (d_doors_at F (txt_ok X G c) (cal_S_doors_of X G c)) (He.glo_ok X G (c.fact 4 (f := .glo "doors_at") rfl)) (F.bindsN fun _ _ _ _ _ _ us hl => match us, hl with | [_, _], _ => rfl)
theorem cal_the_name (X : K.In h) (G : h.Ns mainGlobals mg) (c : He.SaysD fas fns K) : CalF P w K mg base "the_name" 3 ["world", "thing"] (SpD (F_the (He.ga K "World"))) := by
  obtain ⟨fd, F⟩ := c.def_ 8 (d := ⟨("the_name", none), "the_name", "the_name", defArgs s_the_name, defBody s_the_name, defScope s_the_name, [], []⟩) rfl
  exact bindF F (d_the_name F (txt_ok X G c) (cal_words_for X G c)) (He.glo_ok X G (c.fact 8 (f := .glo "the_name") rfl)) (F.bindsN fun _ _ _ _ _ _ us hl => match us, hl with | [_, _], _ => rfl)
theorem cal_held_line (X : K.In h) (G : h.Ns mainGlobals mg) (c : He.SaysD fas fns K) : CalF P w K mg base "held_line" 4 ["world", "state", "holder", "seen"] (SpN (F_heldl (He.ga K "State") (He.ga K "World"))) := by
  obtain ⟨fd, F⟩ := c.def_ 13 (d := ⟨("held_line", none), "held_line", "held_line", defArgs s_held_line, defBody s_held_line, defScope s_held_line, [], []⟩) rfl
  exact bindF F (d_held_line F (txt_ok X G c) (cal_S_where X G c) (cal_the_name X G c) (cal_joined_names X G c) (cal_a_name X G c)) (He.glo_ok X G (c.fact 13 (f := .glo "held_line") rfl)) (F.bindsN fun _ _ _ _ _ _ us hl => match us, hl with | [_, _, _, _], _ => rfl)
theorem cal_look_lines (X : K.In h) (G : h.Ns mainGlobals mg) (c : He.SaysD fas fns K) : CalF P w K mg base "look_lines" 7 ["world", "state"] (SpN (F_look (He.ga K "State") (He.ga K "World"))) := by
  obtain ⟨fd, F⟩ := c.def_ 14 (d := ⟨("look_lines", none), "look_lines", "look_lines", defArgs s_look_lines, defBody s_look_lines, defScope s_look_lines, [], []⟩) rfl
  exact bindF F (d_look_lines F (txt_ok X G c) (cal_S_here X G c) (cal_is_lit X G c) (cal_seen_things X G c) (cal_ways_line X G c) (cal_S_where X G c) (cal_doors_at X G c) (cal_joined_names X G c) (cal_a_name X G c) (cal_held_line X G c)) (He.glo_ok X G (c.fact 14 (f := .glo "look_lines") rfl)) (F.bindsN fun _ _ _ _ _ _ us hl => match us, hl with | [_, _], _ => rfl)
theorem cal_same0 (X : K.In h) (G : h.Ns mainGlobals mg) (c : He.SaysD fas fns K) : CalF P w K mg base "_law_same" 0 ["_law_found", "_law_due"] (SpD (F_same 0)) := by
  obtain ⟨fd, F⟩ := c.def_ 49 (d := ⟨("_law_same", none), "_law_same", "_law_same", defArgs s_law_same, defBody s_law_same, defScope s_law_same, [], []⟩) rfl
  have ok : FnOk P w K mg base CX0 0 (He.fAd K ("_law_same", none)) fd ["_law_found", "_law_due"] (SpD (F_same 0)) := by
    refine ⟨SpD.len (by rintro ds d ⟨x, hx, rfl, rfl⟩; rfl), ?_⟩
    rintro A outer s H args us vs Q E hr he hb hv ⟨O, ds, d, hd, hm, ⟨x, hx, _⟩, _⟩
    simp [D.dp] at hx
  exact bindF F ok (He.glo_ok X G (c.fact 25 (f := .glo "_law_same") rfl)) (F.bindsN fun _ _ _ _ _ _ us hl => match us, hl with | [_, _], _ => rfl)
theorem cal_sameS {n : Nat} (X : K.In h) (G : h.Ns mainGlobals mg) (c : He.SaysD fas fns K) (c1 : CalF P w K mg base "_law_same" n ["_law_found", "_law_due"] (SpD (F_same n))) : CalF P w K mg base "_law_same" (n + 1) ["_law_found", "_law_due"] (SpD (F_same (n + 1))) := by
  obtain ⟨fd, F⟩ := c.def_ 49 (d := ⟨("_law_same", none), "_law_same", "_law_same", defArgs s_law_same, defBody s_law_same, defScope s_law_same, [], []⟩) rfl
  exact bindF F (d_law_same F (txt_ok X G c) c1) (He.glo_ok X G (c.fact 25 (f := .glo "_law_same") rfl)) (F.bindsN fun _ _ _ _ _ _ us hl => match us, hl with | [_, _], _ => rfl)
theorem cal_law_same (X : K.In h) (G : h.Ns mainGlobals mg) (c : He.SaysD fas fns K) : CalF P w K mg base "_law_same" 5 ["_law_found", "_law_due"] (SpD (F_same 5)) := cal_sameS X G c (cal_sameS X G c (cal_sameS X G c (cal_sameS X G c (cal_sameS X G c (cal_same0 X G c)))))
theorem cal_law_listed (X : K.In h) (G : h.Ns mainGlobals mg) (c : He.SaysD fas fns K) : CalF P w K mg base "_law_listed" 3 ["_law_model_here", "_law_own_here"] (SpN F_llisted) := by
  obtain ⟨fd, F⟩ := c.def_ 63 (d := ⟨("_law_listed", none), "_law_listed", "_law_listed", defArgs s_law_listed, defBody s_law_listed, defScope s_law_listed, [], []⟩) rfl
  exact bindF F (d_law_listed F (txt_ok X G c) (cal_law_a X G c) (cal_law_joined X G c)) (He.glo_ok X G (c.fact 39 (f := .glo "_law_listed") rfl)) (F.bindsN fun _ _ _ _ _ _ us hl => match us, hl with | [_, _], _ => rfl)
theorem cal_law_right (X : K.In h) (G : h.Ns mainGlobals mg) (c : He.SaysD fas fns K) : CalF P w K mg base "_law_right" 8 ["_law_model_here", "_law_own_here", "_law_world", "_law_state"] (SpD (F_right (He.ga K "State") (He.ga K "World"))) := by
  obtain ⟨fd, F⟩ := c.def_ 64 (d := ⟨("_law_right", none), "_law_right", "_law_right", defArgs s_law_right, defBody s_law_right, defScope s_law_right, [], []⟩) rfl
  exact bindF F (d_law_right F (txt_ok X G c) (cal_law_marked X G c) (cal_law_look X G c) (cal_hold_lines X G c) (cal_look_lines X G c) (cal_law_same X G c) (cal_law_listed X G c) (cal_law_seen X G c)) (He.glo_ok X G (c.fact 40 (f := .glo "_law_right") rfl)) (F.bindsN fun _ _ _ _ _ _ us hl => match us, hl with | [_, _, _, _], _ => rfl)
theorem cal_law_holds (X : K.In h) (G : h.Ns mainGlobals mg) (c : He.SaysD fas fns K) : CalF P w K mg base "_law_holds" 1 ["_law_own_here", "_law_holder", "_law_thing"] (SpD F_lholds) := by
  obtain ⟨fd, F⟩ := c.def_ 51 (d := ⟨("_law_holds", none), "_law_holds", "_law_holds", defArgs s_law_holds, defBody s_law_holds, defScope s_law_holds, [], []⟩) rfl
  exact bindF F (d_law_holds F (txt_ok X G c) ) (He.glo_ok X G (c.fact 27 (f := .glo "_law_holds") rfl)) (F.bindsN fun _ _ _ _ _ _ us hl => match us, hl with | [_, _, _], _ => rfl)
theorem cal_S_would_ring (X : K.In h) (G : h.Ns mainGlobals mg) (c : He.SaysD fas fns K) : CalM P w K mg base (He.ga K "State") "would_ring" 1 ["self", "thing", "where"] (SpD (F_ring (He.ga K "State") (He.ga K "World"))) := by
  obtain ⟨fd, F⟩ := c.def_ 31 (d := ⟨("State", some "would_ring"), "would_ring", "State.would_ring", defArgs s_S_would_ring, defBody s_S_would_ring, defScope s_S_would_ring, [], []⟩) rfl
  exact ⟨⟨_, fd, d_S_would_ring F (txt_ok X G c) , He.meth_ok (c.fact 85 (f := .meth "State" "would_ring") rfl), (F.bindsN fun _ _ _ _ _ _ us hl => match us, hl with | [_, _, _], _ => rfl)⟩⟩
theorem cal_S_holder_has (X : K.In h) (G : h.Ns mainGlobals mg) (c : He.SaysD fas fns K) : CalM P w K mg base (He.ga K "State") "holder_has" 1 ["self", "thing", "trait"] (SpD (F_hhas (He.ga K "State") (He.ga K "World"))) := by
  obtain ⟨fd, F⟩ := c.def_ 29 (d := ⟨("State", some "holder_has"), "holder_has", "State.holder_has", defArgs s_S_holder_has, defBody s_S_holder_has, defScope s_S_holder_has, [], []⟩) rfl
  exact ⟨⟨_, fd, d_S_holder_has F (txt_ok X G c) , He.meth_ok (c.fact 83 (f := .meth "State" "holder_has") rfl), (F.bindsN fun _ _ _ _ _ _ us hl => match us, hl with | [_, _, _], _ => rfl)⟩⟩
theorem cal_S_is_where (X : K.In h) (G : h.Ns mainGlobals mg) (c : He.SaysD fas fns K) : CalM P w K mg base (He.ga K "State") "is_where" 2 ["self", "where"] (SpD (F_iswh (He.ga K "State") (He.ga K "World"))) := by
  obtain ⟨fd, F⟩ := c.def_ 30 (d := ⟨("State", some "is_where"), "is_where", "State.is_where", defArgs s_S_is_where, defBody s_S_is_where, defScope s_S_is_where, [], []⟩) rfl
  exact ⟨⟨_, fd, d_S_is_where F (txt_ok X G c) (cal_S_holder_has X G c), He.meth_ok (c.fact 84 (f := .meth "State" "is_where") rfl), (F.bindsN fun _ _ _ _ _ _ us hl => match us, hl with | [_, _], _ => rfl)⟩⟩
theorem cal_S_move_thing (X : K.In h) (G : h.Ns mainGlobals mg) (c : He.SaysD fas fns K) : CalM P w K mg base (He.ga K "State") "move_thing" 3 ["self", "thing", "where"] (SpMove (He.ga K "State") (He.ga K "World")) := by
  obtain ⟨fd, F⟩ := c.def_ 32 (d := ⟨("State", some "move_thing"), "move_thing", "State.move_thing", defArgs s_S_move_thing, defBody s_S_move_thing, defScope s_S_move_thing, [], []⟩) rfl
  exact ⟨⟨_, fd, d_S_move_thing F (txt_ok X G c) (cal_S_need_thing X G c) (cal_S_would_ring X G c) (cal_S_is_where X G c), He.meth_ok (c.fact 86 (f := .meth "State" "move_thing") rfl), (F.bindsN fun _ _ _ _ _ _ us hl => match us, hl with | [_, _, _], _ => rfl)⟩⟩
theorem cal_is_truth (X : K.In h) (G : h.Ns mainGlobals mg) (c : He.SaysD fas fns K) : CalF P w K mg base "is_truth" 1 ["thing"] (SpD F_truth) := by
  obtain ⟨fd, F⟩ := c.def_ 16 (d := ⟨("is_truth", none), "is_truth", "is_truth", defArgs s_is_truth, defBody s_is_truth, defScope s_is_truth, [], []⟩) rfl
  exact bindF F (d_is_truth F (txt_ok X G c) ) (He.glo_ok X G (c.fact 16 (f := .glo "is_truth") rfl)) (F.bindsN fun _ _ _ _ _ _ us hl => match us, hl with | [_], _ => rfl)
theorem cal_S_set_open (X : K.In h) (G : h.Ns mainGlobals mg) (c : He.SaysD fas fns K) : CalM P w K mg base (He.ga K "State") "set_open" 2 ["self", "thing", "truth"] (SpOpen (He.ga K "State") (He.ga K "World")) := by
  obtain ⟨fd, F⟩ := c.def_ 33 (d := ⟨("State", some "set_open"), "set_open", "State.set_open", defArgs s_S_set_open, defBody s_S_set_open, defScope s_S_set_open, [], []⟩) rfl
  exact ⟨⟨_, fd, d_S_set_open F (txt_ok X G c) (cal_S_need_thing X G c) (cal_is_truth X G c), He.meth_ok (c.fact 87 (f := .meth "State" "set_open") rfl), (F.bindsN fun _ _ _ _ _ _ us hl => match us, hl with | [_, _, _], _ => rfl)⟩⟩
theorem cal_S_set_worn (X : K.In h) (G : h.Ns mainGlobals mg) (c : He.SaysD fas fns K) : CalM P w K mg base (He.ga K "State") "set_worn" 2 ["self", "thing", "truth"] (SpWorn (He.ga K "State") (He.ga K "World")) := by
  obtain ⟨fd, F⟩ := c.def_ 34 (d := ⟨("State", some "set_worn"), "set_worn", "State.set_worn", defArgs s_S_set_worn, defBody s_S_set_worn, defScope s_S_set_worn, [], []⟩) rfl
  exact ⟨⟨_, fd, d_S_set_worn F (txt_ok X G c) (cal_S_need_thing X G c) (cal_is_truth X G c), He.meth_ok (c.fact 88 (f := .meth "State" "set_worn") rfl), (F.bindsN fun _ _ _ _ _ _ us hl => match us, hl with | [_, _, _], _ => rfl)⟩⟩
theorem cal_S_number_of (X : K.In h) (G : h.Ns mainGlobals mg) (c : He.SaysD fas fns K) : CalM P w K mg base (He.ga K "State") "number_of" 1 ["self", "name"] (SpD (F_num (He.ga K "State") (He.ga K "World"))) := by
  obtain ⟨fd, F⟩ := c.def_ 28 (d := ⟨("State", some "number_of"), "number_of", "State.number_of", defArgs s_S_number_of, defBody s_S_number_of, defScope s_S_number_of, [], []⟩) rfl
  exact ⟨⟨_, fd, d_S_number_of F (txt_ok X G c) , He.meth_ok (c.fact 82 (f := .meth "State" "number_of") rfl), (F.bindsN fun _ _ _ _ _ _ us hl => match us, hl with | [_, _], _ => rfl)⟩⟩
theorem cal_S_set_number (X : K.In h) (G : h.Ns mainGlobals mg) (c : He.SaysD fas fns K) : CalM P w K mg base (He.ga K "State") "set_number" 2 ["self", "name", "number"] (SpNum (He.ga K "State") (He.ga K "World")) := by
  obtain ⟨fd, F⟩ := c.def_ 35 (d := ⟨("State", some "set_number"), "set_number", "State.set_number", defArgs s_S_set_number, defBody s_S_set_number, defScope s_S_set_number, [], []⟩) rfl
  exact ⟨⟨_, fd, d_S_set_number F (txt_ok X G c) (cal_S_number_of X G c), He.meth_ok (c.fact 89 (f := .meth "State" "set_number") rfl), (F.bindsN fun _ _ _ _ _ _ us hl => match us, hl with | [_, _, _], _ => rfl)⟩⟩
theorem cal_S_next_turn (X : K.In h) (G : h.Ns mainGlobals mg) (c : He.SaysD fas fns K) : CalM P w K mg base (He.ga K "State") "next_turn" 1 ["self"] (SpTurn (He.ga K "State") (He.ga K "World")) := by
  obtain ⟨fd, F⟩ := c.def_ 37 (d := ⟨("State", some "next_turn"), "next_turn", "State.next_turn", defArgs s_S_next_turn, defBody s_S_next_turn, defScope s_S_next_turn, [], []⟩) rfl
  exact ⟨⟨_, fd, d_S_next_turn F (txt_ok X G c) , He.meth_ok (c.fact 91 (f := .meth "State" "next_turn") rfl), (F.bindsN fun _ _ _ _ _ _ us hl => match us, hl with | [_], _ => rfl)⟩⟩
theorem cal_S_go_to (X : K.In h) (G : h.Ns mainGlobals mg) (c : He.SaysD fas fns K) : CalM P w K mg base (He.ga K "State") "go_to" 1 ["self", "place"] (SpGo (He.ga K "State") (He.ga K "World")) := by
  obtain ⟨fd, F⟩ := c.def_ 36 (d := ⟨("State", some "go_to"), "go_to", "State.go_to", defArgs s_S_go_to, defBody s_S_go_to, defScope s_S_go_to, [], []⟩) rfl
  exact ⟨⟨_, fd, d_S_go_to F (txt_ok X G c) , He.meth_ok (c.fact 90 (f := .meth "State" "go_to") rfl), (F.bindsN fun _ _ _ _ _ _ us hl => match us, hl with | [_, _], _ => rfl)⟩⟩
theorem cal_law_moved (X : K.In h) (G : h.Ns mainGlobals mg) (c : He.SaysD fas fns K) : CalF P w K mg base "_law_moved" 4 ["_law_model_here", "_law_own_here", "_law_state", "_law_number"] (SpMoved (He.ga K "State") (He.ga K "World")) := by
  obtain ⟨fd, F⟩ := c.def_ 53 (d := ⟨("_law_moved", none), "_law_moved", "_law_moved", defArgs s_law_moved, defBody s_law_moved, defScope s_law_moved, [], []⟩) rfl
  exact bindF F (d_law_moved F (txt_ok X G c) (cal_law_holders X G c) (cal_law_holds X G c) (cal_S_move_thing X G c) (cal_S_set_open X G c) (cal_S_set_worn X G c) (cal_S_set_number X G c) (cal_S_next_turn X G c) (cal_S_go_to X G c)) (He.glo_ok X G (c.fact 29 (f := .glo "_law_moved") rfl)) (F.bindsN fun _ _ _ _ _ _ us hl => match us, hl with | [_, _, _, _], _ => rfl)
theorem cal_law_told (X : K.In h) (G : h.Ns mainGlobals mg) (c : He.SaysD fas fns K) : CalF P w K mg base "_law_told" 1 ["_law_own_here"] (SpD F_ltold) := by
  obtain ⟨fd, F⟩ := c.def_ 52 (d := ⟨("_law_told", none), "_law_told", "_law_told", defArgs s_law_told, defBody s_law_told, defScope s_law_told, [], []⟩) rfl
  exact bindF F (d_law_told F (txt_ok X G c) ) (He.glo_ok X G (c.fact 28 (f := .glo "_law_told") rfl)) (F.bindsN fun _ _ _ _ _ _ us hl => match us, hl with | [_], _ => rfl)
theorem cal_S_told (X : K.In h) (G : h.Ns mainGlobals mg) (c : He.SaysD fas fns K) : CalM P w K mg base (He.ga K "State") "told" 1 ["self"] (SpD (F_told (He.ga K "State") (He.ga K "World"))) := by
  obtain ⟨fd, F⟩ := c.def_ 38 (d := ⟨("State", some "told"), "told", "State.told", defArgs s_S_told, defBody s_S_told, defScope s_S_told, [], []⟩) rfl
  exact ⟨⟨_, fd, d_S_told F (txt_ok X G c) , He.meth_ok (c.fact 92 (f := .meth "State" "told") rfl), (F.bindsN fun _ _ _ _ _ _ us hl => match us, hl with | [_], _ => rfl)⟩⟩
theorem facts {f : Addr} (X : K.In h) (G : h.Ns mainGlobals mg) (hfa : mg ("law" : Str) = some (.ref f)) (c : He.SaysD fas fns K) :
    ∃ fd : FuncData, (∀ (s : Shared) (v : Value), BindsTo s fd ⟨[v], []⟩ [("_law_script", v)]) ∧ ∀ base : Heap, K.In base → base.Ns mainGlobals mg → FnOk P w K mg base CX0 9 f fd ["_law_script"] (SpLaw K) := by
  obtain ⟨fd, F⟩ := c.def_ 65 (d := ⟨("law", none), "law", "law", defArgs s_law, defBody s_law, defScope s_law, [], []⟩) rfl
  have e := hfa.symm.trans (He.glo_ok X G (c.fact 41 (f := .glo "law") rfl))
  cases e
  have b := FunD.bindsA (ps := ["_law_script"]) F fun _ _ _ _ _ _ us hl => match us, hl with | [_], _ => rfl
  exact ⟨fd, fun s v => b s [v] rfl, fun base _ _ => d_law F (txt_ok X G c) (cal_law_model X G c) (cal_W_init X G c) (cal_S_init X G c) (cal_law_own X G c) (cal_law_right X G c) (cal_law_moved X G c) (cal_law_drawn X G c) (cal_law_same X G c) (cal_law_told X G c) (cal_S_told X G c)⟩
end
end Wt
open PySem PySem.W PySem.Calls PyProof.Rows
theorem PySem.Challenge.cw_worldtale_k12_whole_looked_and_listed_holds : PySem.Challenge.rw_worldtale_k12_whole_looked_and_listed.Holds := by
  w_on; o_law
  refine HandSHeadRun.head_any (r := OpenLaw.row PySem.Challenge.rw_worldtale_k12_whole_looked_and_listed) (q := view (OpenLaw.row PySem.Challenge.rw_worldtale_k12_whole_looked_and_listed).prog [55]) (H := Wt.hk) (ob := Wt.ob) (M := 6000) (loose := Wt.looseA) (d := HandSHeadRun.topDef (OpenLaw.row PySem.Challenge.rw_worldtale_k12_whole_looked_and_listed).prog 55) (kwd := []) Wt.ob_eq
    (by kernel_rfl) (fun s => by kernel_rfl) Wt.run (by kernel_rfl) (by kernel_rfl) (by kernel_rfl) (by rfl) (by first | assumption | decide +kernel) (by decide +kernel) ⟨rfl, rfl, rfl, rfl, rfl, by decide +kernel⟩ ?hw ?hc
  case hw => w_witness2
  case hc =>
    refine L2.walk_ofE (l := PySem.Challenge.rw_worldtale_k12_whole_looked_and_listed) (n := 63) (k := 9) (x := "_law_script") (CX := L2.CX0) rfl (by decide) (by kernel_rfl) ⟨rfl, by decide, by decide⟩ ?F (fun _ _ _ _ z => z)
    intro w mg fa h Y G hmg0
    obtain ⟨K, KX, c⟩ := Y
    have hmg : mg ("law" : PySem.Str) = some (.ref fa) := by
      have e : (HandSHeadRun.topDef (OpenLaw.row PySem.Challenge.rw_worldtale_k12_whole_looked_and_listed).prog 55).name = ("law" : PySem.Str) := by kernel_rfl
      rw [← e]
      exact hmg0
    obtain ⟨fd, hb, hF⟩ := Wt.facts (P := (PySem.Challenge.rw_worldtale_k12_whole_looked_and_listed).prog) (w := w) KX G hmg c
    exact ⟨K, fd, Wt.SpLaw K, KX, hb, fun H a ns hl _ hS => ⟨a, ns, hl, hS, rfl, fun _ => rfl⟩, hF⟩

