import PyProof.Rows.All
import Wide.All
import OpenK.AllK
import Wide.FinOn
import KE.KStateDown
import HandS.ForMost
import HandS.ForExc
import HandS.Defaults
import HandS.CallLocal
import HandS.Flow
import HandS.Small
import HandS.Style
import HandS.DictTup
import HandS.TupSets
import HandS.TupLen
import HandS.TupAny
import HandS.SortInts
import HandS.Strs
import HandS.SetFor
import HandS.SetKeys
import HandS.IsInst
import HandS.RevRange
import HandS.RaiseOp
import HandS.TryOnly
import HandS.WrittenGet
import HandS.Codes
import HandS.Deep
import HandS.DeepEq
import HandS.ListEq
import HandS.More
import HandS.Conv
import HandS.Zip
import HandS.Evl
import HandS.Steps
import HandS.HeadHook4
import HandS.Head2
import PySem.Challenge.RW_fewnotes_k72_whole_orders_and_runs
import KE.GoesEnumKw
import KE.GoesZip
import HandS.Walk
import PyProof.NeData
import HandS.Replace
import KE.KDictDisplayH
import HandS.HeadEnd
set_option Elab.async false
set_option linter.all false
set_option maxRecDepth 100000
/-! the text by places: each def of the top is a statement of it -/
namespace K72
open PySem L2
def top (i : Nat) : Stmt := PySem.Challenge.pw_fewnotes_k72_whole_orders_and_runs.main.body.getD i (.Pass ⟨0, 0, 0, 0⟩)
abbrev FnP (K : PySem.W.Frag) (x q : Str) (st : Stmt) (dvs : List V) (f : Addr) (fd : FuncData) : Prop := FunD K x q (defArgs st) (defBody st) (defScope st) dvs [] f fd
abbrev s__wall : Stmt := top 0
abbrev s_RowError___init__ : Stmt := inClass (top 3) 0
abbrev s_is_touch : Stmt := top 15
abbrev s_need_record : Stmt := top 16
abbrev s_firsts_of : Stmt := top 17
abbrev s_waits_for : Stmt := top 18
abbrev s_ready : Stmt := top 19
abbrev s_keeps : Stmt := top 20
abbrev s_first_order : Stmt := top 21
abbrev s_next_layer : Stmt := top 22
abbrev s_layers : Stmt := top 23
abbrev s_how_many_cuts : Stmt := top 24
abbrev s_how_many_orders : Stmt := top 25
abbrev s_number_of : Stmt := top 32
abbrev s_box_of : Stmt := top 33
abbrev s_plain_of : Stmt := top 34
abbrev s_worth_of : Stmt := top 35
abbrev s_unless_of : Stmt := top 38
abbrev s_row_of : Stmt := top 39
abbrev s_cell_of : Stmt := top 40
abbrev s_cells_of : Stmt := top 41
abbrev s_take_row : Stmt := top 42
abbrev s_look_at_targets : Stmt := top 43
abbrev s_read : Stmt := top 44
abbrev s_Hand___init__ : Stmt := inClass (top 49) 0
abbrev s_worth_now : Stmt := top 50
abbrev s_is_so : Stmt := top 51
abbrev s_put_in : Stmt := top 52
abbrev s_do_own : Stmt := top 53
abbrev s_lead_on : Stmt := top 54
abbrev s_do_touch : Stmt := top 55
abbrev s_hand_of : Stmt := top 56
abbrev s_likeness : Stmt := top 57
abbrev s_first_numbers : Stmt := top 58
abbrev s_Works___init__ : Stmt := inClass (top 59) 0
abbrev s_Works_turn : Stmt := inClass (top 59) 1
abbrev s_Works_cells : Stmt := inClass (top 59) 2
abbrev s_Works_boxes : Stmt := inClass (top 59) 3
abbrev s_Works_said : Stmt := inClass (top 59) 4
abbrev s_Works_how : Stmt := inClass (top 59) 5
abbrev s_Works_counts : Stmt := inClass (top 59) 6
abbrev s_Works_twin : Stmt := inClass (top 59) 7
abbrev s_Works___eq__ : Stmt := inClass (top 59) 8
abbrev s_Works___len__ : Stmt := inClass (top 59) 9
abbrev s_turns_of : Stmt := top 62
abbrev s_web_of : Stmt := top 63
abbrev s_touches_of : Stmt := top 64
abbrev s_names : Stmt := top 65
abbrev s_touches_meet : Stmt := top 66
abbrev s_is_step : Stmt := top 67
abbrev s_looked_back : Stmt := top 68
abbrev s_stands_of : Stmt := top 69
abbrev s_same_run : Stmt := top 70
abbrev s_notes : Stmt := top 72
abbrev s_counts_of : Stmt := top 75
abbrev s_record_of : Stmt := top 76
abbrev s__law_reel : Stmt := top 78
abbrev s__law_draw : Stmt := top 79
abbrev s__law_cell : Stmt := top 80
abbrev s__law_e : Stmt := top 81
abbrev s__law_row : Stmt := top 82
abbrev s__law_program : Stmt := top 83
abbrev s__law_run : Stmt := top 84
abbrev s__law_orders : Stmt := top 85
abbrev s__law_places : Stmt := top 86
abbrev s__law_kept : Stmt := top 87
abbrev s_law : Stmt := top 88
end K72

set_option Elab.async false
set_option linter.all false
set_option maxRecDepth 100000
set_option maxHeartbeats 0
/-! the head: what the top has written, by names; one run of the top in the kernel -/
namespace K72
open PySem L2

def d_is_touch : He.DefD := ⟨("is_touch", none), "is_touch", "is_touch", defArgs s_is_touch, defBody s_is_touch, defScope s_is_touch, [], []⟩
def d_need_record : He.DefD := ⟨("need_record", none), "need_record", "need_record", defArgs s_need_record, defBody s_need_record, defScope s_need_record, [], []⟩
def d_firsts_of : He.DefD := ⟨("firsts_of", none), "firsts_of", "firsts_of", defArgs s_firsts_of, defBody s_firsts_of, defScope s_firsts_of, [], []⟩
def d_waits_for : He.DefD := ⟨("waits_for", none), "waits_for", "waits_for", defArgs s_waits_for, defBody s_waits_for, defScope s_waits_for, [], []⟩
def d_ready : He.DefD := ⟨("ready", none), "ready", "ready", defArgs s_ready, defBody s_ready, defScope s_ready, [], []⟩
def d_keeps : He.DefD := ⟨("keeps", none), "keeps", "keeps", defArgs s_keeps, defBody s_keeps, defScope s_keeps, [], []⟩
def d_first_order : He.DefD := ⟨("first_order", none), "first_order", "first_order", defArgs s_first_order, defBody s_first_order, defScope s_first_order, [], []⟩
def d_next_layer : He.DefD := ⟨("next_layer", none), "next_layer", "next_layer", defArgs s_next_layer, defBody s_next_layer, defScope s_next_layer, [], []⟩
def d_layers : He.DefD := ⟨("layers", none), "layers", "layers", defArgs s_layers, defBody s_layers, defScope s_layers, [], []⟩
def d_how_many_cuts : He.DefD := ⟨("how_many_cuts", none), "how_many_cuts", "how_many_cuts", defArgs s_how_many_cuts, defBody s_how_many_cuts, defScope s_how_many_cuts, [.int 2000], []⟩
def d_how_many_orders : He.DefD := ⟨("how_many_orders", none), "how_many_orders", "how_many_orders", defArgs s_how_many_orders, defBody s_how_many_orders, defScope s_how_many_orders, [.int 2000], []⟩
def d_number_of : He.DefD := ⟨("number_of", none), "number_of", "number_of", defArgs s_number_of, defBody s_number_of, defScope s_number_of, [], []⟩
def d_box_of : He.DefD := ⟨("box_of", none), "box_of", "box_of", defArgs s_box_of, defBody s_box_of, defScope s_box_of, [], []⟩
def d_plain_of : He.DefD := ⟨("plain_of", none), "plain_of", "plain_of", defArgs s_plain_of, defBody s_plain_of, defScope s_plain_of, [], []⟩
def d_worth_of : He.DefD := ⟨("worth_of", none), "worth_of", "worth_of", defArgs s_worth_of, defBody s_worth_of, defScope s_worth_of, [], []⟩
def d_unless_of : He.DefD := ⟨("unless_of", none), "unless_of", "unless_of", defArgs s_unless_of, defBody s_unless_of, defScope s_unless_of, [], []⟩
def d_row_of : He.DefD := ⟨("row_of", none), "row_of", "row_of", defArgs s_row_of, defBody s_row_of, defScope s_row_of, [], []⟩
def d_cell_of : He.DefD := ⟨("cell_of", none), "cell_of", "cell_of", defArgs s_cell_of, defBody s_cell_of, defScope s_cell_of, [], []⟩
def d_cells_of : He.DefD := ⟨("cells_of", none), "cells_of", "cells_of", defArgs s_cells_of, defBody s_cells_of, defScope s_cells_of, [], []⟩
def d_take_row : He.DefD := ⟨("take_row", none), "take_row", "take_row", defArgs s_take_row, defBody s_take_row, defScope s_take_row, [], []⟩
def d_look_at_targets : He.DefD := ⟨("look_at_targets", none), "look_at_targets", "look_at_targets", defArgs s_look_at_targets, defBody s_look_at_targets, defScope s_look_at_targets, [], []⟩
def d_read : He.DefD := ⟨("read", none), "read", "read", defArgs s_read, defBody s_read, defScope s_read, [], []⟩
def d_worth_now : He.DefD := ⟨("worth_now", none), "worth_now", "worth_now", defArgs s_worth_now, defBody s_worth_now, defScope s_worth_now, [], []⟩
def d_is_so : He.DefD := ⟨("is_so", none), "is_so", "is_so", defArgs s_is_so, defBody s_is_so, defScope s_is_so, [], []⟩
def d_put_in : He.DefD := ⟨("put_in", none), "put_in", "put_in", defArgs s_put_in, defBody s_put_in, defScope s_put_in, [], []⟩
def d_do_own : He.DefD := ⟨("do_own", none), "do_own", "do_own", defArgs s_do_own, defBody s_do_own, defScope s_do_own, [], []⟩
def d_lead_on : He.DefD := ⟨("lead_on", none), "lead_on", "lead_on", defArgs s_lead_on, defBody s_lead_on, defScope s_lead_on, [], []⟩
def d_do_touch : He.DefD := ⟨("do_touch", none), "do_touch", "do_touch", defArgs s_do_touch, defBody s_do_touch, defScope s_do_touch, [], []⟩
def d_hand_of : He.DefD := ⟨("hand_of", none), "hand_of", "hand_of", defArgs s_hand_of, defBody s_hand_of, defScope s_hand_of, [], []⟩
def d_first_numbers : He.DefD := ⟨("first_numbers", none), "first_numbers", "first_numbers", defArgs s_first_numbers, defBody s_first_numbers, defScope s_first_numbers, [], []⟩
def d_turns_of : He.DefD := ⟨("turns_of", none), "turns_of", "turns_of", defArgs s_turns_of, defBody s_turns_of, defScope s_turns_of, [], []⟩
def d_web_of : He.DefD := ⟨("web_of", none), "web_of", "web_of", defArgs s_web_of, defBody s_web_of, defScope s_web_of, [.non], []⟩
def d_touches_of : He.DefD := ⟨("touches_of", none), "touches_of", "touches_of", defArgs s_touches_of, defBody s_touches_of, defScope s_touches_of, [.non], []⟩
def d_names : He.DefD := ⟨("names", none), "names", "names", defArgs s_names, defBody s_names, defScope s_names, [], []⟩
def d_touches_meet : He.DefD := ⟨("touches_meet", none), "touches_meet", "touches_meet", defArgs s_touches_meet, defBody s_touches_meet, defScope s_touches_meet, [], []⟩
def d_is_step : He.DefD := ⟨("is_step", none), "is_step", "is_step", defArgs s_is_step, defBody s_is_step, defScope s_is_step, [], []⟩
def d_looked_back : He.DefD := ⟨("looked_back", none), "looked_back", "looked_back", defArgs s_looked_back, defBody s_looked_back, defScope s_looked_back, [], []⟩
def d_stands_of : He.DefD := ⟨("stands_of", none), "stands_of", "stands_of", defArgs s_stands_of, defBody s_stands_of, defScope s_stands_of, [], []⟩
def d_same_run : He.DefD := ⟨("same_run", none), "same_run", "same_run", defArgs s_same_run, defBody s_same_run, defScope s_same_run, [], []⟩
def d_notes : He.DefD := ⟨("notes", none), "notes", "notes", defArgs s_notes, defBody s_notes, defScope s_notes, [], []⟩
def d_counts_of : He.DefD := ⟨("counts_of", none), "counts_of", "counts_of", defArgs s_counts_of, defBody s_counts_of, defScope s_counts_of, [], []⟩
def d_record_of : He.DefD := ⟨("record_of", none), "record_of", "record_of", defArgs s_record_of, defBody s_record_of, defScope s_record_of, [], []⟩
def d__law_reel : He.DefD := ⟨("_law_reel", none), "_law_reel", "_law_reel", defArgs s__law_reel, defBody s__law_reel, defScope s__law_reel, [], []⟩
def d__law_draw : He.DefD := ⟨("_law_draw", none), "_law_draw", "_law_draw", defArgs s__law_draw, defBody s__law_draw, defScope s__law_draw, [], []⟩
def d__law_cell : He.DefD := ⟨("_law_cell", none), "_law_cell", "_law_cell", defArgs s__law_cell, defBody s__law_cell, defScope s__law_cell, [], []⟩
def d__law_e : He.DefD := ⟨("_law_e", none), "_law_e", "_law_e", defArgs s__law_e, defBody s__law_e, defScope s__law_e, [], []⟩
def d__law_row : He.DefD := ⟨("_law_row", none), "_law_row", "_law_row", defArgs s__law_row, defBody s__law_row, defScope s__law_row, [], []⟩
def d__law_program : He.DefD := ⟨("_law_program", none), "_law_program", "_law_program", defArgs s__law_program, defBody s__law_program, defScope s__law_program, [], []⟩
def d__law_run : He.DefD := ⟨("_law_run", none), "_law_run", "_law_run", defArgs s__law_run, defBody s__law_run, defScope s__law_run, [], []⟩
def d__law_orders : He.DefD := ⟨("_law_orders", none), "_law_orders", "_law_orders", defArgs s__law_orders, defBody s__law_orders, defScope s__law_orders, [], []⟩
def d__law_places : He.DefD := ⟨("_law_places", none), "_law_places", "_law_places", defArgs s__law_places, defBody s__law_places, defScope s__law_places, [], []⟩
def d__law_kept : He.DefD := ⟨("_law_kept", none), "_law_kept", "_law_kept", defArgs s__law_kept, defBody s__law_kept, defScope s__law_kept, [], []⟩
def d_law : He.DefD := ⟨("law", none), "law", "law", defArgs s_law, defBody s_law, defScope s_law, [], []⟩
def d_Hand___init__ : He.DefD := ⟨("Hand", some "__init__"), "__init__", "Hand.__init__", defArgs s_Hand___init__, defBody s_Hand___init__, defScope s_Hand___init__, [], []⟩
def d_Works___init__ : He.DefD := ⟨("Works", some "__init__"), "__init__", "Works.__init__", defArgs s_Works___init__, defBody s_Works___init__, defScope s_Works___init__, [.non], []⟩
def d_Works_turn : He.DefD := ⟨("Works", some "turn"), "turn", "Works.turn", defArgs s_Works_turn, defBody s_Works_turn, defScope s_Works_turn, [], []⟩
def d_Works_how : He.DefD := ⟨("Works", some "how"), "how", "Works.how", defArgs s_Works_how, defBody s_Works_how, defScope s_Works_how, [], []⟩
def d_Works_counts : He.DefD := ⟨("Works", some "counts"), "counts", "Works.counts", defArgs s_Works_counts, defBody s_Works_counts, defScope s_Works_counts, [], []⟩
def hfn1 : List He.DefD := [d_is_touch, d_need_record, d_firsts_of, d_waits_for, d_ready, d_keeps, d_first_order, d_next_layer, d_layers, d_how_many_cuts, d_how_many_orders, d_number_of, d_box_of, d_plain_of, d_worth_of, d_unless_of, d_row_of, d_cell_of, d_cells_of, d_take_row, d_look_at_targets, d_read, d_worth_now, d_is_so, d_put_in, d_do_own, d_lead_on, d_do_touch, d_hand_of]
def hfn2 : List He.DefD := [d_first_numbers, d_turns_of, d_web_of, d_touches_of, d_names, d_touches_meet, d_is_step, d_looked_back, d_stands_of, d_same_run, d_notes, d_counts_of, d_record_of, d__law_reel, d__law_draw, d__law_cell, d__law_e, d__law_row, d__law_program, d__law_run, d__law_orders, d__law_places, d__law_kept, d_law, d_Hand___init__, d_Works___init__, d_Works_turn, d_Works_how, d_Works_counts]
def hfn : List He.DefD := hfn1 ++ hfn2
def hfa1 : List He.Fa := [.glo "is_touch", .glo "need_record", .glo "firsts_of", .glo "waits_for", .glo "ready", .glo "keeps", .glo "first_order", .glo "next_layer", .glo "layers", .glo "how_many_cuts", .glo "how_many_orders", .glo "number_of", .glo "box_of", .glo "plain_of", .glo "worth_of", .glo "unless_of", .glo "row_of", .glo "cell_of", .glo "cells_of", .glo "take_row", .glo "look_at_targets", .glo "read", .glo "worth_now", .glo "is_so", .glo "put_in", .glo "do_own", .glo "lead_on", .glo "do_touch", .glo "hand_of", .glo "first_numbers"]
def hfa2 : List He.Fa := [.glo "turns_of", .glo "web_of", .glo "touches_of", .glo "names", .glo "touches_meet", .glo "is_step", .glo "looked_back", .glo "stands_of", .glo "same_run", .glo "notes", .glo "counts_of", .glo "record_of", .glo "_law_reel", .glo "_law_draw", .glo "_law_cell", .glo "_law_e", .glo "_law_row", .glo "_law_program", .glo "_law_run", .glo "_law_orders", .glo "_law_places", .glo "_law_kept", .glo "law", .glo "Hand", .glo "Works", .glo "FORMS", .glo "READERS"]
def hfa3 : List He.Fa := [.free "abs", .free "len", .free "str", .free "range", .free "enumerate", .free "zip", .free "dict", .free "list", .free "tuple", .free "sorted", .free "set", .free "int", .free "isinstance", .free "bool", .free "sum", .free "max", .free "KeyError", .int "MOST_CELLS" 20, .int "MOST_HANDS_programs" 8, .int "MOST_ROWS" 60, .int "ROUND" 1000, .int "MOST_OWN" 60, .int "HANDS" 8, .int "MOST_HANDS_records" 8, .str "FIGURES" "0123456789", .str "BOXES" "abcdefgh", .str "LETTERS" "abcdefgh", .cls "Hand", .cls "Works", .mkr "Hand", .mkr "Works", .meth "Works" "turn", .meth "Works" "how", .meth "Works" "counts", .noat "Hand" "rows", .noat "Hand" "at", .noat "Hand" "held", .noat "Hand" "spoken", .noat "Hand" "way", .noat "Works" "shared", .noat "Works" "team", .noat "Works" "past"]
def hfa : List He.Fa := hfa1 ++ (hfa2 ++ hfa3)
def vForms : List (Str × He.Dv) := [("load", .str "bn"), ("store", .str "nw"), ("swap", .str "bnw"), ("let", .str "bw"), ("say", .str "w"), ("go", .str "n")]
def vReaders : List (Str × He.Dv) := [("b", .glo "box_of"), ("n", .glo "number_of"), ("w", .glo "worth_of")]
def hts : List He.Tab := [(fun K => He.ga K "FORMS", ["load", "store", "swap", "let", "say", "go"]), (fun K => He.ga K "READERS", ["b", "n", "w"])]
def hex_ (K : PySem.W.Frag) : Bool := He.valsB K (He.ga K "FORMS") vForms && He.valsB K (He.ga K "READERS") vReaders
abbrev R : PySem.W.OpenRow := PySem.W.OpenLaw.row PySem.Challenge.rw_fewnotes_k72_whole_orders_and_runs
/-- what an object names -/
def nbs (g : Addr → Option Obj) (a : Addr) : List Addr := match g a with
  | some o => He.refsD o
  | none => []
def hnm : List Str := hfn.map (fun d => d.at_.1) ++ [("FORMS" : Str), ("READERS" : Str)]
/-- the addresses that the facts look at: the module's names, the defs, what they name; the two classes, their methods, what these name -/
def asK (g : Addr → Option Obj) : List Addr :=
  let K0 := He.frT g [mainGlobals]
  let l1 := hnm.map (He.ga K0)
  let l3 := [He.ga K0 "Hand", He.ga K0 "Works"].flatMap fun c => (nbs g c).flatMap (nbs g)
  mainGlobals :: (l1 ++ (l1.flatMap (nbs g) ++ (l3 ++ l3.flatMap (nbs g))))
def obsK (g : Addr → Option Obj) : He.AlX := (He.obsT hfa hfn hts (He.frT g (asK g)), hex_ (He.frT g (asK g)))
theorem saysK {w : World} {h : Heap} (e : obsK h.get? = He.valX hfn hts w) : He.SaysX hfa hfn hts [] hex_ w h (He.frT h.get? (asK h.get?)) :=
  .mk (congrArg Prod.fst e) (congrArg Prod.snd e) (fun _ m => nomatch m) (fun _ m => nomatch m) (fun _ m => nomatch m)
abbrev hk : PySem.W.Hook :=
  { α := He.AlX
    obs := fun s => obsK s.heap.get?
    val := He.valX hfn hts
    says := fun w h => ∃ K : PySem.W.Frag, K.In h ∧ He.SaysX hfa hfn hts [] hex_ w h K
    of := fun _ _ e => ⟨_, He.frT_in, saysK e⟩
    keeps := fun w h h' z k => by
      obtain ⟨K, hK, c⟩ := z
      exact ⟨K, PySem.W.Frag.In.keeps hK k, c.t, c.more, c.hd, c.out, fun p m => nomatch m⟩ }
def hob (s : PySem.W.SharedT) : He.AlX := obsK (HandSHeadRun.getT s)
theorem hob_eq (s : PySem.W.SharedT) : hob s = hk.obs s.abs := congrArg obsK (funext (HandSHeadRun.getT_eq s))
def loose0 : List Str := [("_wall" : Str), ("NoteError" : Str), ("RowError" : Str), ("NoRow" : Str), ("NoCell" : Str), ("Full" : Str), ("NoTarget" : Str), ("NoNumber" : Str), ("NoHand" : Str), ("Over" : Str), ("NoOrder" : Str), ("NoNote" : Str), ("TooMany" : Str), ("is_touch" : Str), ("need_record" : Str), ("firsts_of" : Str), ("waits_for" : Str), ("ready" : Str), ("keeps" : Str), ("first_order" : Str)]
def loose1 : List Str := [("next_layer" : Str), ("layers" : Str), ("how_many_cuts" : Str), ("how_many_orders" : Str), ("FIGURES" : Str), ("BOXES" : Str), ("MOST_CELLS" : Str), ("MOST_HANDS_programs" : Str), ("MOST_ROWS" : Str), ("number_of" : Str), ("box_of" : Str), ("plain_of" : Str), ("worth_of" : Str), ("FORMS" : Str), ("READERS" : Str), ("unless_of" : Str), ("row_of" : Str), ("cell_of" : Str), ("cells_of" : Str), ("take_row" : Str)]
def loose2 : List Str := [("look_at_targets" : Str), ("read" : Str), ("LETTERS" : Str), ("ROUND" : Str), ("MOST_OWN" : Str), ("Hand" : Str), ("worth_now" : Str), ("is_so" : Str), ("put_in" : Str), ("do_own" : Str), ("lead_on" : Str), ("do_touch" : Str), ("hand_of" : Str), ("likeness" : Str), ("first_numbers" : Str), ("Works" : Str), ("HANDS" : Str), ("turns_of" : Str), ("web_of" : Str), ("touches_of" : Str)]
def loose3 : List Str := [("names" : Str), ("touches_meet" : Str), ("is_step" : Str), ("looked_back" : Str), ("stands_of" : Str), ("same_run" : Str), ("notes" : Str), ("MOST_HANDS_records" : Str), ("counts_of" : Str), ("record_of" : Str), ("_law_reel" : Str), ("_law_draw" : Str), ("_law_cell" : Str), ("_law_e" : Str), ("_law_row" : Str), ("_law_program" : Str), ("_law_run" : Str), ("_law_orders" : Str), ("_law_places" : Str), ("_law_kept" : Str)]
def hloose : List Str := loose0 ++ (loose1 ++ (loose2 ++ (loose3)))
theorem hrunF (w : World) : HandSHeadRun.RunEq R (PySem.W.view R.prog [88]) hk hob 6000 hloose (w.withFollow "special-get-raises" false) := by
  intro os
  kernel_rfl
theorem hrunT (w : World) : HandSHeadRun.RunEq R (PySem.W.view R.prog [88]) hk hob 6000 hloose (w.withFollow "special-get-raises" true) := by
  intro os
  kernel_rfl
theorem hrun (w : World) : HandSHeadRun.RunEq R (PySem.W.view R.prog [88]) hk hob 6000 hloose w :=
  PySem.W.byRow2 "special-get-raises" (P := HandSHeadRun.RunEq R (PySem.W.view R.prog [88]) hk hob 6000 hloose) hrunF hrunT w
end K72

set_option Elab.async false
set_option linter.all false
set_option maxRecDepth 100000
set_option maxHeartbeats 4000000
/-! short rules of our own: a def by its name, globals, xs[i] op= e -/
namespace K72
open PySem PySem.Spec PyProof.Rows L2
/-- a def known by its name; dvs: the defaults that a call leaves out -/
structure Def1 (P : Program) (w : World) (K : PySem.W.Frag) (mg : Str → Option Value) (base : Heap) (x : Str) (ps : List Str) (dvs : List V) (k : Nat) (sp : Sp) : Prop where
  ex : ∃ (f : Addr) (fd : FuncData) (ds : List Value), mg x = some (.ref f) ∧ PySem.W.keepIn K (.ref f) = true ∧ Binds K fd ps ds ∧ Vals dvs ds ∧ FnOk P w K mg base CX0 k f fd ps sp
section
variable {X : Cx} {k k' : Nat} {ps : List Str} {sp : Sp} {dvs : List V} {x : Str} {p pos : Pos} {e : Expr} {es : List Expr} {t : TA}
theorem pe_cl (D : Def1 X.prog X.w X.K X.mg X.base x ps dvs k' sp) (hr : Room k X.A) (ha : PA X (e :: es) t) (hk : k' ≤ k := by decide) (hg : Gl X x := by rfl) (hdb : (x == ("__debug__" : Str)) = false := by decide)
    (he : starEach (e :: es) X.env = (false, eval e X.env) :: starEach es X.env := by rfl) (hpl : (backTo pos (starEach es X.env)).any (·.1) = false := by rfl) :
    PE X (.Call (.Name x p) (e :: es) [] pos) (tCall sp dvs E0 t) := by
  obtain ⟨f, fd, ds, hm, hkp, hb, hd, F⟩ := D.ex
  exact pe_call F (hr.mono hk) hg hm hkp hb hd pass0 ha (hdb := hdb) (he := he) (hpl := hpl)
theorem pe_gl {v : V} {pos : Pos} (h : ∃ u, X.mg x = some u ∧ RelV v u) (hg : Gl X x := by rfl) (hdb : (x == ("__debug__" : Str)) = false := by decide) : PE X (.Name x pos) (tC v) := by
  obtain ⟨u, hm, r⟩ := h
  exact pe_glob hg hm r hdb
/-- xs[i], by values -/
theorem get_list : PGet X (rIxL X.K) := by
  intro pins s σ H x y v u Q I rx ry h
  obtain ⟨p, xs, i, z, rfl, rfl, hq, he, q⟩ := h
  cases rx
  obtain ⟨t, rfl⟩ := ry
  obtain ⟨its, r, pl, hz⟩ := I.list hq
  obtain ⟨j, h1, h2, h3, h4, h5⟩ := atI_get he
  obtain ⟨w, ew, rw'⟩ := r.get h2
  have hl := r.length
  have hn := line63
  have fin : EP X pins σ Q w s := ⟨z, H, I, rw', q⟩
  by_cases h0 : 0 ≤ i
  · have hj : i.toNat = j := by
      rw [seqIndex_of h0 h5] at h1
      exact Option.some.inj h1
    exact wpAny_getItem_list pl.isList h0 (by omega) (by rw [hj]; simpa using ew) fin
  · have hj : (i + (its.toArray.size : Int)).toNat = j := by
      rw [seqIndex_neg (by omega) h4] at h1
      rw [List.size_toArray, ← hl]
      exact Option.some.inj h1
    exact wpAny_getItem_list_neg pl.isList (by omega) (by rw [List.size_toArray] <;> omega) (by omega) (by rw [hj]; simpa using ew) fin
end
end K72

set_option Elab.async false
set_option linter.all false
set_option maxRecDepth 100000
set_option maxHeartbeats 4000000
/-! what the walks lean on of the top: built-ins that are free, constants -/
namespace K72
open PySem PySem.Spec PyProof.Rows L2
abbrev GV (mg : Str → Option Value) (x : Str) (v : V) : Prop := ∃ u, mg x = some u ∧ RelV v u
structure Txt (K : PySem.W.Frag) (mg : Str → Option Value) : Prop where
  n_abs : mg "abs" = none
  n_len : mg "len" = none
  n_str : mg "str" = none
  n_range : mg "range" = none
  n_enumerate : mg "enumerate" = none
  n_zip : mg "zip" = none
  n_dict : mg "dict" = none
  n_list : mg "list" = none
  n_tuple : mg "tuple" = none
  n_sorted : mg "sorted" = none
  n_set : mg "set" = none
  n_int : mg "int" = none
  n_isinstance : mg "isinstance" = none
  n_bool : mg "bool" = none
  n_sum : mg "sum" = none
  n_max : mg "max" = none
  n_KeyError : mg "KeyError" = none
  g_MOST_CELLS : GV mg "MOST_CELLS" (.int 20)
  g_MOST_HANDS_programs : GV mg "MOST_HANDS_programs" (.int 8)
  g_MOST_ROWS : GV mg "MOST_ROWS" (.int 60)
  g_ROUND : GV mg "ROUND" (.int 1000)
  g_MOST_OWN : GV mg "MOST_OWN" (.int 60)
  g_HANDS : GV mg "HANDS" (.int 8)
  g_MOST_HANDS_records : GV mg "MOST_HANDS_records" (.int 8)
  g_FIGURES : GV mg "FIGURES" (.str "0123456789")
  g_BOXES : GV mg "BOXES" (.str "abcdefgh")
  g_LETTERS : GV mg "LETTERS" (.str "abcdefgh")
abbrev FnK (P : Program) (w : World) (K : PySem.W.Frag) (mg : Str → Option Value) (base : Heap) (k : Nat) (f : Addr) (fd : FuncData) (ps : List Str) (sp : Sp) : Prop := FnOk P w K mg base CX0 k f fd ps sp
section
variable {P : Program} {w : World} {K : PySem.W.Frag} {mg : Str → Option Value} {base : Heap}
/-- THE RULE for a def that lets no exception out -/
theorem fok {x qual : Str} {st : Stmt} {dvs : List V} {f : Addr} {fd : FuncData} {N ps : List Str} {k : Nat} {sp : Sp} (F : FnP K x qual st dvs f fd) (S : FnScope N ps (defScope st)) (len : ∀ vs H Q E, sp vs H Q E → vs.length = ps.length)
    (hbody : ∀ (cdv : Value) (A : Around) (outer : List Env) (s : Shared) (H : Hp) (vs : List V) (Q : VK) (E : XK), Room k (A.deeper (envOfC qual (defScope st) s.heap.objs.size f cdv)) → sp vs H Q E →
      ∃ t, PSs (cxOf CX0 P w K mg base N qual (defScope st) f cdv A outer s H E).nox (defBody st) t ∧ t { nx := fun _ H' => Q .non H', rt := Q } (start N vs) H) : FnOk P w K mg base CX0 (k + 1) f fd ps sp :=
  F.ok S len fun cdv A outer s H vs Q E hr h => by
    obtain ⟨t, h1, h2⟩ := hbody cdv A outer s H vs Q E hr h
    exact ⟨t, PSs.nox h1, h2⟩
end
end K72

set_option Elab.async false
set_option linter.all false
set_option maxRecDepth 100000
set_option maxHeartbeats 4000000
/-! the data: programs as plain data, their texts -/
namespace K72
open PySem L2 TL
inductive Pl where
  | num (n : Nat)
  | box (i : Nat)
inductive Wo where
  | pl (p : Pl)
  | add (a b : Pl)
  | sub (a b : Pl)
inductive Rw where
  | load (b c : Nat)
  | store (c : Nat) (e : Wo)
  | swap (b c : Nat) (e : Wo)
  | let_ (b : Nat) (e : Wo)
  | say (e : Wo)
  | go (k : Nat)
  | unl (q : Bool) (x y : Wo) (k : Nat)
structure Pg where
  cells : Nat
  hands : List (List Rw)
def numS (n : Nat) : Str := Str.ofString (toString ((n : Nat) : Int))
def letS (i : Nat) : Str := ⟨#[97 + i]⟩
def Pl.txt : Pl → Str
  | .num n => numS n
  | .box i => letS i
def Pl.ok : Pl → Prop
  | .num n => n < 1000
  | .box i => i < 8
def Wo.txt : Wo → Str
  | .pl p => p.txt
  | .add a b => a.txt ++ "+" ++ b.txt
  | .sub a b => a.txt ++ "-" ++ b.txt
def Wo.ok : Wo → Prop
  | .pl p => p.ok
  | .add a b => a.ok ∧ b.ok
  | .sub a b => a.ok ∧ b.ok
def sgn (q : Bool) : Str := if q then "=" else "<"
def Rw.words : Rw → List Str
  | .load b c => ["load", letS b, numS c]
  | .store c e => ["store", numS c, e.txt]
  | .swap b c e => ["swap", letS b, numS c, e.txt]
  | .let_ b e => ["let", letS b, e.txt]
  | .say e => ["say", e.txt]
  | .go k => ["go", numS k]
  | .unl q x y k => ["unless", x.txt, sgn q, y.txt, "go", numS k]
def Rw.ok (cells rows : Nat) : Rw → Prop
  | .load b c => b < 8 ∧ c < cells
  | .store c e => c < cells ∧ e.ok
  | .swap b c e => b < 8 ∧ c < cells ∧ e.ok
  | .let_ b e => b < 8 ∧ e.ok
  | .say e => e.ok
  | .go k => k ≤ rows
  | .unl _ x y k => x.ok ∧ y.ok ∧ k ≤ rows
def Rw.txt (r : Rw) : Str := Txt.join " " r.words
def handLines (h : List Rw) : List Str := "hand" :: h.map Rw.txt
def Pg.lines (p : Pg) : List Str := ("cells " ++ numS p.cells) :: p.hands.flatMap handLines
def Pg.txt (p : Pg) : Str := Txt.join "\n" p.lines
structure Pg.ok (p : Pg) : Prop where
  c1 : 1 ≤ p.cells
  c2 : p.cells ≤ 20
  h1 : 1 ≤ p.hands.length
  h2 : p.hands.length ≤ 8
  rows : ∀ h ∈ p.hands, h.length ≤ 60 ∧ ∀ r ∈ h, r.ok p.cells h.length

/-! ### signs -/
theorem tl_numS (n : Nat) : tl (numS n) = numL n := tl_num n
theorem tl_letS (i : Nat) : tl (letS i) = [97 + i] := rfl
theorem len_numS {n : Nat} (h : n < 1000) : (numS n).length ≤ 3 := by
  rw [len_tl, tl_numS]
  exact numL_len (by decide) h
theorem len_letS (i : Nat) : (letS i).length = 1 := rfl
theorem len_app (a b : Str) : (a ++ b).length = a.length + b.length := by
  rw [len_tl, len_tl, len_tl, tl_append, List.length_append]
theorem app_assoc (a b c : Str) : a ++ b ++ c = a ++ (b ++ c) := ext_tl (by rw [tl_append, tl_append, tl_append, tl_append, List.append_assoc])
/-- signs of plain words -/
def PlainSigns (l : List Nat) : Prop := ∀ c ∈ l, (48 ≤ c ∧ c ≤ 57) ∨ (97 ≤ c ∧ c ≤ 122)
theorem signs_num (n : Nat) : PlainSigns (tl (numS n)) := fun c hc => by
  rw [tl_numS] at hc
  have r := numL_digits n c hc
  omega
theorem signs_let {i : Nat} (h : i < 8) : PlainSigns (tl (letS i)) := fun c hc => by
  rw [tl_letS] at hc
  have e := List.mem_singleton.mp hc
  omega
theorem Pl.signs {p : Pl} (h : p.ok) : PlainSigns (tl p.txt) := by
  cases p with
  | num n => exact signs_num n
  | box i => exact signs_let h
/-- no blank, no line feed -/
def Word (x : Str) : Prop := 32 ∉ tl x ∧ 10 ∉ tl x
theorem PlainSigns.word {x : Str} (h : PlainSigns (tl x)) : Word x := ⟨fun m => by have := h _ m; omega, fun m => by have := h _ m; omega⟩
theorem Word.app {a b : Str} (ha : Word a) (hb : Word b) : Word (a ++ b) := by
  unfold Word
  rw [tl_append]
  exact ⟨fun m => (List.mem_append.mp m).elim ha.1 hb.1, fun m => (List.mem_append.mp m).elim ha.2 hb.2⟩
theorem word_lit {x : Str} (h : ((tl x).all fun c => decide (c ≠ 32 ∧ c ≠ 10)) = true) : Word x := by
  have q := List.all_eq_true.mp h
  exact ⟨fun m => by have := of_decide_eq_true (q _ m); omega, fun m => by have := of_decide_eq_true (q _ m); omega⟩
theorem Wo.word {e : Wo} (h : e.ok) : Word e.txt := by
  cases e with
  | pl p => exact (Pl.signs h).word
  | add a b => exact ((Pl.signs h.1).word.app (word_lit (by decide +kernel))).app (Pl.signs h.2).word
  | sub a b => exact ((Pl.signs h.1).word.app (word_lit (by decide +kernel))).app (Pl.signs h.2).word
theorem Pl.len {p : Pl} (h : p.ok) : p.txt.length ≤ 3 := by
  cases p with
  | num n => exact len_numS h
  | box i => show (letS i).length ≤ 3; rw [len_letS]; decide
theorem Wo.len {e : Wo} (h : e.ok) : e.txt.length ≤ 7 := by
  cases e with
  | pl p => exact Nat.le_trans (Pl.len h) (by decide)
  | add a b =>
    show (a.txt ++ "+" ++ b.txt).length ≤ 7
    have h1 := Pl.len h.1
    have h2 := Pl.len h.2
    have h3 : ("+" : Str).length = 1 := by decide +kernel
    rw [len_app, len_app, h3]
    omega
  | sub a b =>
    show (a.txt ++ "-" ++ b.txt).length ≤ 7
    have h1 := Pl.len h.1
    have h2 := Pl.len h.2
    have h3 : ("-" : Str).length = 1 := by decide +kernel
    rw [len_app, len_app, h3]
    omega
theorem word_sgn (q : Bool) : Word (sgn q) := by cases q <;> exact word_lit (by decide +kernel)
theorem len_sgn (q : Bool) : (sgn q).length = 1 := by cases q <;> decide +kernel
theorem Rw.words_ok {r : Rw} {cells rows : Nat} (h : r.ok cells rows) : ∀ x ∈ r.words, Word x := by
  cases r with
  | load b c =>
    intro x hx
    simp only [Rw.words, List.mem_cons, List.not_mem_nil, or_false] at hx
    rcases hx with rfl | rfl | rfl
    · exact word_lit (by decide +kernel)
    · exact (signs_let h.1).word
    · exact (signs_num _).word
  | store c e =>
    intro x hx
    simp only [Rw.words, List.mem_cons, List.not_mem_nil, or_false] at hx
    rcases hx with rfl | rfl | rfl
    · exact word_lit (by decide +kernel)
    · exact (signs_num _).word
    · exact Wo.word h.2
  | swap b c e =>
    intro x hx
    simp only [Rw.words, List.mem_cons, List.not_mem_nil, or_false] at hx
    rcases hx with rfl | rfl | rfl | rfl
    · exact word_lit (by decide +kernel)
    · exact (signs_let h.1).word
    · exact (signs_num _).word
    · exact Wo.word h.2.2
  | let_ b e =>
    intro x hx
    simp only [Rw.words, List.mem_cons, List.not_mem_nil, or_false] at hx
    rcases hx with rfl | rfl | rfl
    · exact word_lit (by decide +kernel)
    · exact (signs_let h.1).word
    · exact Wo.word h.2
  | say e =>
    intro x hx
    simp only [Rw.words, List.mem_cons, List.not_mem_nil, or_false] at hx
    rcases hx with rfl | rfl
    · exact word_lit (by decide +kernel)
    · exact Wo.word h
  | go k =>
    intro x hx
    simp only [Rw.words, List.mem_cons, List.not_mem_nil, or_false] at hx
    rcases hx with rfl | rfl
    · exact word_lit (by decide +kernel)
    · exact (signs_num _).word
  | unl q x y k =>
    intro z hx
    simp only [Rw.words, List.mem_cons, List.not_mem_nil, or_false] at hx
    rcases hx with rfl | rfl | rfl | rfl | rfl | rfl
    · exact word_lit (by decide +kernel)
    · exact Wo.word h.1
    · exact word_sgn q
    · exact Wo.word h.2.1
    · exact word_lit (by decide +kernel)
    · exact (signs_num _).word
theorem Rw.words_ne (r : Rw) : r.words ≠ [] := by cases r <;> simp [Rw.words]
theorem tl_blank : tl (" " : Str) = [32] := by decide +kernel
theorem tl_feed : tl ("\n" : Str) = [10] := by decide +kernel
theorem Rw.split {r : Rw} {cells rows : Nat} (h : r.ok cells rows) : Txt.split r.txt " " = r.words :=
  split_join tl_blank (by decide +kernel) r.words_ne fun x hx => (Rw.words_ok h x hx).1
theorem join_mem {y : Str} {c : Nat} (hy : c ∉ tl y) : ∀ {l : List Str}, (∀ x ∈ l, c ∉ tl x) → c ∉ tl (Str.join y l)
  | [], _ => fun m => by cases m
  | [x], h => h x (List.mem_singleton.mpr rfl)
  | x :: z :: r, h => by
    show c ∉ tl (x ++ y ++ Str.join y (z :: r))
    rw [tl_append, tl_append]
    intro m
    rcases List.mem_append.mp m with m | m
    · rcases List.mem_append.mp m with m | m
      · exact h x (List.mem_cons_self ..) m
      · exact hy m
    · exact join_mem hy (fun q hq => h q (List.mem_cons_of_mem _ hq)) m
theorem Rw.no_feed {r : Rw} {cells rows : Nat} (h : r.ok cells rows) : 10 ∉ tl r.txt := by
  unfold Rw.txt
  rw [join_eq]
  exact join_mem (by rw [tl_blank]; decide) fun x hx => (Rw.words_ok h x hx).2
theorem Pg.lines_ok {p : Pg} (h : p.ok) : ∀ x ∈ p.lines, 10 ∉ tl x := by
  intro x hx
  rcases List.mem_cons.mp hx with rfl | hx
  · rw [tl_append]
    intro m
    rcases List.mem_append.mp m with m | m
    · exact absurd m (by decide +kernel)
    · exact (signs_num _).word.2 m
  · obtain ⟨hd, hh, hx⟩ := List.mem_flatMap.mp hx
    rcases List.mem_cons.mp hx with rfl | hx
    · decide +kernel
    · obtain ⟨r, hr, rfl⟩ := List.mem_map.mp hx
      exact Rw.no_feed ((h.rows hd hh).2 r hr)
theorem Pg.split {p : Pg} (h : p.ok) : Txt.split p.txt "\n" = p.lines :=
  split_join tl_feed (by decide +kernel) (by simp [Pg.lines]) (Pg.lines_ok h)
/-! ### lengths -/
def sumLen (l : List Str) : Nat := (l.map Str.length).sum
theorem len_join (y : Str) : ∀ l : List Str, (Str.join y l).length ≤ sumLen l + l.length * y.length
  | [] => Nat.zero_le _
  | [x] => by show x.length ≤ (x.length + 0) + 1 * y.length; omega
  | x :: z :: r => by
    have ih := len_join y (z :: r)
    show (x ++ y ++ Str.join y (z :: r)).length ≤ (x.length + sumLen (z :: r)) + (r.length + 1 + 1) * y.length
    rw [len_app, len_app]
    have e : (r.length + 1 + 1) * y.length = (z :: r).length * y.length + y.length := by rw [List.length_cons, Nat.succ_mul (r.length + 1)]
    omega
theorem sumLen_cons (x : Str) (l : List Str) : sumLen (x :: l) = x.length + sumLen l := rfl
theorem sumLen_app (l m : List Str) : sumLen (l ++ m) = sumLen l + sumLen m := by
  unfold sumLen
  rw [List.map_append, List.sum_append]
theorem Rw.len {r : Rw} {cells rows : Nat} (h : r.ok cells rows) (hc : cells ≤ 20) (hr : rows ≤ 60) : r.txt.length ≤ 50 := by
  unfold Rw.txt
  rw [join_eq]
  refine Nat.le_trans (len_join " " r.words) ?_
  have hb : (" " : Str).length = 1 := by decide +kernel
  rw [hb]
  have hn : ∀ {n : Nat}, n < 1000 → (numS n).length ≤ 3 := fun h => len_numS h
  have hl : ∀ i, (letS i).length = 1 := len_letS
  cases r with
  | load b c =>
    have h1 := hn (n := c) (by have := h.2; omega)
    have e0 : ("load" : Str).length = 4 := by decide +kernel
    simp only [Rw.words, sumLen_cons, List.length_cons, List.length_nil, hl, e0]
    show _ + (_ + (_ + 0)) + _ ≤ _
    omega
  | store c e =>
    have h1 := hn (n := c) (by have := h.1; omega)
    have h2 := Wo.len h.2
    have e0 : ("store" : Str).length = 5 := by decide +kernel
    simp only [Rw.words, sumLen_cons, List.length_cons, List.length_nil, hl, e0]
    show _ + (_ + (_ + 0)) + _ ≤ _
    omega
  | swap b c e =>
    have h1 := hn (n := c) (by have := h.2.1; omega)
    have h2 := Wo.len h.2.2
    have e0 : ("swap" : Str).length = 4 := by decide +kernel
    simp only [Rw.words, sumLen_cons, List.length_cons, List.length_nil, hl, e0]
    show _ + (_ + (_ + (_ + 0))) + _ ≤ _
    omega
  | let_ b e =>
    have h2 := Wo.len h.2
    have e0 : ("let" : Str).length = 3 := by decide +kernel
    simp only [Rw.words, sumLen_cons, List.length_cons, List.length_nil, hl, e0]
    show _ + (_ + (_ + 0)) + _ ≤ _
    omega
  | say e =>
    have h2 := Wo.len h
    have e0 : ("say" : Str).length = 3 := by decide +kernel
    simp only [Rw.words, sumLen_cons, List.length_cons, List.length_nil, hl, e0]
    show _ + (_ + 0) + _ ≤ _
    omega
  | go k =>
    have h1 := hn (n := k) (by have h' : k ≤ rows := h; omega)
    have e0 : ("go" : Str).length = 2 := by decide +kernel
    simp only [Rw.words, sumLen_cons, List.length_cons, List.length_nil, hl, e0]
    show _ + (_ + 0) + _ ≤ _
    omega
  | unl q x y k =>
    have h1 := hn (n := k) (by have := h.2.2; omega)
    have h2 := Wo.len h.1
    have h3 := Wo.len h.2.1
    have e0 : ("unless" : Str).length = 6 := by decide +kernel
    have e1 : ("go" : Str).length = 2 := by decide +kernel
    simp only [Rw.words, sumLen_cons, List.length_cons, List.length_nil, hl, e0, e1, len_sgn]
    show _ + (_ + (_ + (_ + (_ + (_ + 0))))) + _ ≤ _
    omega
theorem sumLen_le {l : List Str} {k : Nat} (h : ∀ x ∈ l, x.length ≤ k) : sumLen l ≤ l.length * k := by
  induction l with
  | nil => exact Nat.zero_le _
  | cons x r ih =>
    have h1 := h x (List.mem_cons_self ..)
    have h2 := ih fun y hy => h y (List.mem_cons_of_mem _ hy)
    rw [sumLen_cons, List.length_cons, Nat.succ_mul]
    omega
theorem lines_bound {cells : Nat} : ∀ {hs : List (List Rw)}, (∀ h ∈ hs, h.length ≤ 60 ∧ ∀ r ∈ h, r.ok cells h.length) → cells ≤ 20 → (∀ x ∈ hs.flatMap handLines, x.length ≤ 50) ∧ (hs.flatMap handLines).length ≤ hs.length * 61
  | [], _, _ => ⟨fun x hx => (by cases hx), Nat.zero_le _⟩
  | h :: hs, H, hc => by
    obtain ⟨i1, i2⟩ := lines_bound (hs := hs) (fun g hg => H g (List.mem_cons_of_mem _ hg)) hc
    obtain ⟨h1, h2⟩ := H h (List.mem_cons_self ..)
    rw [List.flatMap_cons]
    refine ⟨fun x hx => ?_, ?_⟩
    · rcases List.mem_append.mp hx with hx | hx
      · rcases List.mem_cons.mp hx with rfl | hx
        · decide +kernel
        · obtain ⟨r, hr, rfl⟩ := List.mem_map.mp hx
          exact Rw.len (h2 r hr) hc h1
      · exact i1 x hx
    · rw [List.length_append, List.length_cons, Nat.succ_mul]
      have e : (handLines h).length = h.length + 1 := by simp [handLines]
      omega
theorem Pg.lines_len {p : Pg} (h : p.ok) : (∀ x ∈ p.lines, x.length ≤ 50) ∧ p.lines.length ≤ 489 := by
  obtain ⟨i1, i2⟩ := lines_bound h.rows h.c2
  have h2 := h.h2
  refine ⟨fun x hx => ?_, ?_⟩
  · rcases List.mem_cons.mp hx with rfl | hx
    · have e : ("cells " : Str).length = 6 := by decide +kernel
      have l := len_numS (n := p.cells) (by have := h.c2; omega)
      rw [len_app, e]
      omega
    · exact i1 x hx
  · show (p.hands.flatMap handLines).length + 1 ≤ 489
    omega
theorem Pg.len {p : Pg} (h : p.ok) : p.txt.length ≤ 30000 := by
  obtain ⟨h1, h2⟩ := Pg.lines_len h
  unfold Pg.txt
  rw [join_eq]
  refine Nat.le_trans (len_join _ _) ?_
  have e : ("\n" : Str).length = 1 := by decide +kernel
  have q := sumLen_le h1
  rw [e]
  omega
end K72

set_option Elab.async false
set_option linter.all false
set_option maxRecDepth 100000
set_option maxHeartbeats 4000000
/-! the law's own helpers that make a program's text -/
namespace K72
open PySem PySem.Spec PyProof.Rows L2 TL
local macro_rules | `(tactic| walk_at "nz") => `(tactic| (show ¬ (_ : Int) = 0; decide))
/-! ### heaps -/
/-- all but what stands at r is kept -/
abbrev Kp1 (r : Addr) (H H' : Hp) : Prop := ∀ p o, H p = some o → p ≠ r → H' p = some o
theorem Kp1.refl (r : Addr) (H : Hp) : Kp1 r H H := fun _ _ e _ => e
theorem Kp1.trans {r : Addr} {H H1 H2 : Hp} (a : Kp1 r H H1) (b : Kp1 r H1 H2) : Kp1 r H H2 := fun p o e n => b p o (a p o e n) n
theorem Kp1.upd {r : Addr} {H : Hp} (o : HO) : Kp1 r H (L2.upd H r o) := fun p _ e n => by rw [upd_ne n]; exact e
theorem Kp1.new {r p : Addr} {H : Hp} {o : HO} (h : H p = none) : Kp1 r H (L2.upd H p o) := fun q _ e _ => by rw [upd_ne (ne_of_none e h)]; exact e
theorem Kp1.of {r : Addr} {H H' : Hp} (s : Same H H') : Kp1 r H H' := fun p o e _ => s p o e
theorem Kp1.same {r : Addr} {H H1 H2 : Hp} (a : Kp1 r H1 H2) (s : Same H H1) (n : H r = none) : Same H H2 := fun p o e => a p o (s p o e) (ne_of_none e n)
theorem Kp1.fresh {r p : Addr} {H H' : Hp} {o : HO} (a : Kp1 r H H') (hr : H' r = some o) (n : H' p = none) : H p = none := by
  cases q : H p with
  | none => rfl
  | some u =>
    by_cases e : p = r
    · rw [e, hr] at n
      cases n
    · rw [a p u q e] at n
      cases n
theorem Same.new {p : Addr} {H : Hp} {o : HO} (h : H p = none) : Same H (L2.upd H p o) := fun q _ e => by rw [upd_ne (ne_of_none e h)]; exact e
theorem Same.mut {H H' : Hp} {p : Addr} {o : HO} (s : Same H H') (h : H p = none) : Same H (L2.upd H' p o) := fun q _ e => by
  rw [upd_ne (ne_of_none e h)]
  exact s q _ e
theorem Same.tup {K : PySem.W.Frag} {H H' : Hp} {a : Addr} {xs : List V} (e : Same H H') (h : SqT K H a xs) : SqT K H' a xs := by
  rcases h with (h | ⟨o, h⟩) | h
  · exact .inl (.inl (e _ _ h))
  · exact .inl (.inr ⟨o, e _ _ h⟩)
  · exact .inr h
def ReelAt (H : Hp) (r : Addr) : Prop := ∃ a b : Int, H r = some (.lst [.int a, .int b]) ∧ 0 ≤ a ∧ 0 ≤ b ∧ b < 2147483647
theorem ReelAt.keep {H H' : Hp} {r : Addr} (h : ReelAt H r) (k : ∀ o, H r = some o → H' r = some o) : ReelAt H' r := by
  obtain ⟨a, b, e, q⟩ := h
  exact ⟨a, b, k _ e, q⟩
theorem ReelAt.new {H : Hp} {r p : Addr} {o : HO} (h : ReelAt H r) (hp : H p = none) : ReelAt (L2.upd H p o) r := h.keep fun u e => by rw [upd_ne (ne_of_none e hp)]; exact e
theorem ReelAt.ne {H : Hp} {r p : Addr} (h : ReelAt H r) (hp : H p = none) : p ≠ r := fun e => by
  obtain ⟨a, b, q, _⟩ := h
  rw [← e, hp] at q
  cases q
theorem ReelAt.some {H : Hp} {r : Addr} (h : ReelAt H r) : ∃ o, H r = some o := by
  obtain ⟨a, b, q, _⟩ := h
  exact ⟨_, q⟩
theorem nat_of {d : Int} (h : 0 ≤ d) : ∃ n : Nat, d = (n : Int) := ⟨d.toNat, (Int.toNat_of_nonneg h).symm⟩
theorem atI_in {α : Type} {xs : List α} {n : Nat} (h : n < xs.length) : ∃ v, v ∈ xs ∧ atI xs (n : Int) = Option.some v := ⟨xs[n], List.getElem_mem h, atI_nat (List.getElem?_eq_getElem h)⟩
theorem log_small {n : Nat} (h : n < 1900) : ((n : Nat) : Int).natAbs.log2 < 1920 := by
  have e : ((n : Nat) : Int).natAbs = n := Int.natAbs_natCast n
  rw [e]
  have := Nat.log2_le_self n
  omega
theorem letter_at : ∀ n : Nat, n < 8 → atI ("abcdefgh" : Str).cps.toList (n : Int) = Option.some (97 + n) := by decide +kernel
theorem letters_len : ("abcdefgh" : Str).length ≤ sizeLine := by decide +kernel

/-! ### promises -/
def sp_law_draw : Sp := fun vs H Q _ => ∃ (r : Addr) (m : Int), vs = [.ref r, .int m] ∧ ReelAt H r ∧ 0 < m ∧ m < 1073741824 ∧ ∀ (d : Nat) (H' : Hp), (d : Int) < m → ReelAt H' r → Kp1 r H H' → Q (.int (d : Int)) H'
def sp_law_reel : Sp := fun vs H Q _ => ∃ (c : Int) (k : Nat), vs = [.int c, .int (k : Int)] ∧ k < 100 ∧ ∀ (r : Addr) (H' : Hp), H r = none → Same H H' → ReelAt H' r → Q (.ref r) H'
def sp_law_cell (K : PySem.W.Frag) : Sp := fun vs H Q _ => ∃ (a : Addr) (ns : List Int) (k : Nat), vs = [.ref a, .int (k : Int)] ∧ SqL K H a (ns.map V.int) ∧ ∀ c : Int, Q (.int c) H
def sp_law_e : Sp := fun vs H Q _ => ∃ r : Addr, vs = [.ref r] ∧ ReelAt H r ∧ ∀ (e : Wo) (H' : Hp), e.ok → ReelAt H' r → Kp1 r H H' → Q (.str e.txt) H'
def sp_law_row : Sp := fun vs H Q _ => ∃ (r : Addr) (cells rows : Nat), vs = [.ref r, .int (cells : Int), .int (rows : Int)] ∧ ReelAt H r ∧ 1 ≤ cells ∧ cells ≤ 20 ∧ rows ≤ 60 ∧
  ∀ (q : Rw) (H' : Hp), q.ok cells rows → ReelAt H' r → Kp1 r H H' → Q (.str q.txt) H'
section
variable {P : Program} {w : World} {K : PySem.W.Frag} {mg : Str → Option Value} {base : Heap} {f : Addr} {fd : FuncData}
theorem sc__law_reel : FnScope ["cell", "k"] ["cell", "k"] (defScope s__law_reel) := ⟨rfl, rfl, rfl, by decide +kernel, rfl, by decide +kernel, by decide +kernel⟩
theorem ok__law_reel (T : Txt K mg) (F : FnP K "_law_reel" "_law_reel" s__law_reel [] f fd) : FnOk P w K mg base CX0 1 f fd ["cell", "k"] sp_law_reel := by
  refine fok F sc__law_reel (fun vs H Q E h => ?_) (fun cdv A outer s H vs Q E hr h => ?_)
  · obtain ⟨_, _, rfl, _⟩ := h
    rfl
  · obtain ⟨c, k, rfl, hk, q⟩ := h
    refine ⟨_, (pss_one (ps_ret (pe_lst (pa_cons (pe_callB call_abs (by rfl) T.n_abs (by decide +kernel) (pa_cons (pv 0) pa_nil)) (pa_cons (pe_op op_modN (pe_op op_mul (pe_op op_add (pe_op op_modN (pe_callB call_abs (by rfl) T.n_abs (by decide +kernel) (pa_cons (pv 0) pa_nil)) pe_int) pe_int) (pe_op op_add (pe_op op_mul pe_int (pv 1)) pe_int)) pe_int) pa_nil))))), ?_⟩
    have ha : (0 : Int) ≤ if c < 0 then -c else c := by split <;> omega
    generalize (if c < 0 then -c else c) = a at ha
    have m1 : (0 : Int) ≤ (if c < 0 then -c else c).fmod 2147483629 := Int.fmod_nonneg_of_pos _ (by decide)
    have m2 : (if c < 0 then -c else c).fmod 2147483629 < 2147483629 := Int.fmod_lt_of_pos _ (by decide)
    refine ⟨_, rfl, c, rfl, ?_⟩
    refine ⟨_, rfl, c, rfl, _, _, rfl, rfl, by walk_at "nz", _, _, rfl, rfl, _, rfl, _, _, rfl, rfl, .inl ⟨by decide, by decide⟩, _, _, rfl, rfl, _, _, rfl, rfl, .inr ⟨by omega, by omega⟩, _, _, rfl, rfl, by walk_at "nz", ?_⟩
    refine ⟨by show 2 ≤ sizeLine; decide, fun p hp => q p _ hp (Same.new hp) ⟨_, _, upd_same, ?_, Int.fmod_nonneg_of_pos _ (by decide), Int.fmod_lt_of_pos _ (by decide)⟩⟩
    split <;> omega
theorem sc__law_draw : FnScope ["reel", "many", "found", "turned"] ["reel", "many"] (defScope s__law_draw) := ⟨rfl, rfl, rfl, by decide +kernel, rfl, by decide +kernel, by decide +kernel⟩
theorem ok__law_draw (T : Txt K mg) (F : FnP K "_law_draw" "_law_draw" s__law_draw [] f fd) : FnOk P w K mg base CX0 1 f fd ["reel", "many"] sp_law_draw := by
  refine fok F sc__law_draw (fun vs H Q E h => ?_) (fun cdv A outer s H vs Q E hr h => ?_)
  · obtain ⟨_, _, rfl, _⟩ := h
    rfl
  · obtain ⟨r, m, rfl, ⟨a, b, hL, ha, hb, hb2⟩, hm, hm2, k0⟩ := h
    have k : ∀ a' b' d : Int, 0 ≤ a' → 0 ≤ b' → b' < 2147483647 → 0 ≤ d → d < m → Q (.int d) (upd H r (.lst [.int a', .int b'])) := fun a' b' d h1 h2 h3 h4 h5 => by
      obtain ⟨n, rfl⟩ := nat_of h4
      exact k0 n _ h5 ⟨a', b', upd_same, h1, h2, h3⟩ (Kp1.upd _)
    refine ⟨_, (pss_cons (ps_if (pt_cmpR op_ge (pe_ix ix_list (pv 0) pe_int (fun _ _ => rfl)) (pe_op op_pow pe_int pe_int) (nomark _))
  (pss_cons (ps_set (i := 2) sc__law_draw.nd rfl (Or.inl rfl) (pe_op op_modN (pe_ix ix_list (pv 0) pe_int (fun _ _ => rfl)) (pv 1)))
  (pss_cons (ps_asg (pe_op op_fdivN (pe_ix ix_list (pv 0) pe_int (fun _ _ => rfl)) (pv 1)) (pg_sub (pv 0) pe_int set_list))
  (pss_one (ps_ret (pv 2)))))
  pss_nil)
  (pss_cons (ps_asg (pe_op op_modN (pe_op op_mul (pe_op op_add (pe_ix ix_list (pv 0) pe_int (fun _ _ => rfl)) pe_int) pe_int) pe_int) (pg_sub (pv 0) pe_int set_list))
  (pss_cons (ps_set (i := 3) sc__law_draw.nd rfl (Or.inl rfl) (pe_op op_modN (pe_op op_mul (pe_ix ix_list (pv 0) pe_int (fun _ _ => rfl)) (pe_ix ix_list (pv 0) pe_int (fun _ _ => rfl))) pe_int))
  (pss_one (ps_ret (pe_op op_modN (pe_op op_fdivN (pe_op op_modN (pe_op op_mul (pv 3) pe_int) pe_int) pe_int) (pv 1))))))), ?_⟩
    refine ⟨_, rfl, _, _, _, _, rfl, rfl, SqL.of hL, rfl, _, _, rfl, rfl, ⟨by decide, by decide, by decide⟩, _, _, rfl, rfl, _, rfl, ite2 (fun h1 => ?_) (fun h1 => ?_)⟩
    · refine ⟨_, rfl, _, _, _, _, rfl, rfl, SqL.of hL, rfl, _, rfl, _, _, rfl, rfl, by omega, _, rfl, _, _, _, _, rfl, rfl, SqL.of hL, rfl, _, rfl, _, _, rfl, rfl, ⟨by omega, by omega⟩, _, rfl, _, _, _, _, rfl, rfl, hL, rfl, _, rfl, ?_⟩
      exact k (a.fdiv m) b (a.fmod m) (by rw [Int.fdiv_eq_ediv_of_nonneg _ (by omega)]; exact Int.ediv_nonneg ha (by omega)) hb hb2 (Int.fmod_nonneg_of_pos _ hm) (Int.fmod_lt_of_pos _ hm)
    · have m1 : (0 : Int) ≤ ((b + 1) * 48271).fmod 2147483647 := Int.fmod_nonneg_of_pos _ (by decide)
      have m2 : ((b + 1) * 48271).fmod 2147483647 < 2147483647 := Int.fmod_lt_of_pos _ (by decide)
      have n1 := Int.fmod_nonneg_of_pos (((b + 1) * 48271).fmod 2147483647 * ((b + 1) * 48271).fmod 2147483647) (b := 2147483629) (by decide)
      have n2 := Int.fmod_lt_of_pos (((b + 1) * 48271).fmod 2147483647 * ((b + 1) * 48271).fmod 2147483647) (b := 2147483629) (by decide)
      refine ⟨_, rfl, _, _, _, _, rfl, rfl, SqL.of hL, rfl, _, _, rfl, rfl, _, _, rfl, rfl, .inl ⟨by omega, by omega⟩, _, _, rfl, rfl, by walk_at "nz", _, rfl, _, _, _, _, rfl, rfl, hL, rfl, ?_⟩
      refine ⟨_, rfl, _, _, _, _, rfl, rfl, SqL.of upd_same, rfl, _, rfl, _, _, _, _, rfl, rfl, SqL.of upd_same, rfl, _, _, rfl, rfl, .inl ⟨by omega, by omega⟩, _, _, rfl, rfl, by walk_at "nz", ?_⟩
      refine ⟨_, rfl, _, _, rfl, rfl, .inl ⟨by omega, by omega⟩, _, _, rfl, rfl, by walk_at "nz", _, _, rfl, rfl, ⟨by decide, by decide⟩, _, rfl, _, _, rfl, rfl, by omega, ?_⟩
      exact k a _ _ ha m1 m2 (Int.fmod_nonneg_of_pos _ hm) (Int.fmod_lt_of_pos _ hm)
theorem sc__law_cell : FnScope ["script", "k"] ["script", "k"] (defScope s__law_cell) := ⟨rfl, rfl, rfl, by decide +kernel, rfl, by decide +kernel, by decide +kernel⟩
theorem ok__law_cell (T : Txt K mg) (F : FnP K "_law_cell" "_law_cell" s__law_cell [] f fd) : FnOk P w K mg base CX0 1 f fd ["script", "k"] (sp_law_cell K) := by
  refine fok F sc__law_cell (fun vs H Q E h => ?_) (fun cdv A outer s H vs Q E hr h => ?_)
  · obtain ⟨_, _, _, rfl, _⟩ := h
    rfl
  · obtain ⟨a, ns, k, rfl, hS, q⟩ := h
    refine ⟨_, (pss_cons (ps_if (pt_cmpR op_lt (pv 1) (pe_callB call_len_seq (by rfl) T.n_len (by decide +kernel) (pa_cons (pv 0) pa_nil)) (nomark _))
  (pss_one (ps_ret (pe_ix ix_list (pv 0) (pv 1) (fun _ _ => rfl))))
  pss_nil)
  (pss_one (ps_ret pe_int))), ?_⟩
    refine ⟨_, rfl, _, rfl, _, _, rfl, .inl hS, _, _, rfl, rfl, _, rfl, ite2 (fun h1 => ?_) (fun h1 => ?_)⟩
    · have h2 := of_decide_eq_true h1
      have h3 : k < ns.length := by
        rw [List.length_map] at h2
        omega
      exact ⟨_, rfl, _, rfl, _, _, _, _, rfl, rfl, hS, atI_nat (by rw [List.getElem?_map, List.getElem?_eq_getElem h3] <;> rfl), q _⟩
    · exact q 0
end
end K72

set_option Elab.async false
set_option linter.all false
set_option maxRecDepth 100000
set_option maxHeartbeats 4000000
/-! _law_e -/
namespace K72
open PySem PySem.Spec PyProof.Rows L2 TL
local macro_rules | `(tactic| walk_at "nz") => `(tactic| (show ¬ (_ : Int) = 0; decide))
/-- a menu's item -/
theorem menu_at (l : List Int) (d : Nat) (h : d < l.length) : ∃ m ∈ l, atI (l.map V.int) (d : Int) = some (.int m) :=
  ⟨l[d], List.getElem_mem h, atI_nat (by rw [List.getElem?_map, List.getElem?_eq_getElem h] <;> rfl)⟩
section
variable {P : Program} {w : World} {K : PySem.W.Frag} {mg : Str → Option Value} {base : Heap} {f : Addr} {fd : FuncData}
theorem sc__law_e : FnScope ["reel", "kind", "some", "k"] ["reel"] (defScope s__law_e) := ⟨rfl, rfl, rfl, by decide +kernel, rfl, by decide +kernel, by decide +kernel⟩
theorem ok__law_e (T : Txt K mg) (F : FnP K "_law_e" "_law_e" s__law_e [] f fd) (h__law_draw : Def1 P w K mg base "_law_draw" ["reel", "many"] [] 1 sp_law_draw) : FnOk P w K mg base CX0 2 f fd ["reel"] sp_law_e := by
  refine fok F sc__law_e (fun vs H Q E h => ?_) (fun cdv A outer s H vs Q E hr h => ?_)
  · obtain ⟨_, rfl, _⟩ := h
    rfl
  · obtain ⟨r, rfl, hR, q⟩ := h
    refine ⟨_, (pss_cons (ps_set (i := 1) sc__law_e.nd rfl (Or.inl rfl) (pe_cl h__law_draw hr (pa_cons (pv 0) (pa_cons pe_int pa_nil))))
  (pss_cons (ps_set (i := 2) sc__law_e.nd rfl (Or.inl rfl) (pe_lst pa_nil))
  (pss_cons (ps_for PassesOwn.never rfl (pi_range1 rfl T.n_range (pa_cons pe_int pa_nil)) (pg_name (i := 3) sc__law_e.nd rfl (Or.inl rfl))
  (pss_one (ps_if (pt_cmpR op_eq (pe_cl h__law_draw hr (pa_cons (pv 0) (pa_cons pe_int pa_nil))) pe_int (nomark _))
  (pss_one (ps_expr (pe_bm PySem.F.plainAttrs_list PySem.F.slot_list_append PySem.F.type_list_append mt_append (pv 2) (pa_cons (pe_callTy call_str_int (by rfl) T.n_str (by decide +kernel) (pa_cons (pe_cl h__law_draw hr (pa_cons (pv 0) (pa_cons (pe_ix ix_list (pe_lst (pa_cons pe_int (pa_cons pe_int (pa_cons pe_int (pa_cons pe_int pa_nil))))) (pe_cl h__law_draw hr (pa_cons (pv 0) (pa_cons pe_int pa_nil))) (fun _ _ => rfl)) pa_nil))) pa_nil)) pa_nil))))
  (pss_one (ps_expr (pe_bm PySem.F.plainAttrs_list PySem.F.slot_list_append PySem.F.type_list_append mt_append (pv 2) (pa_cons (pe_ix ix_str pe_str (pe_cl h__law_draw hr (pa_cons (pv 0) (pa_cons (pe_ix ix_list (pe_lst (pa_cons pe_int (pa_cons pe_int (pa_cons pe_int pa_nil)))) (pe_cl h__law_draw hr (pa_cons (pv 0) (pa_cons pe_int pa_nil))) (fun _ _ => rfl)) pa_nil))) (fun _ _ => rfl)) pa_nil)))))))
  (pss_one (ps_ret (pe_ix ix_list (pe_lst (pa_cons (pe_ix ix_list (pv 2) pe_int (fun _ _ => rfl)) (pa_cons (pe_ix ix_list (pv 2) pe_int (fun _ _ => rfl)) (pa_cons (pe_op op_add_str (pe_op op_add_str (pe_ix ix_list (pv 2) pe_int (fun _ _ => rfl)) pe_str) (pe_ix ix_list (pv 2) pe_int (fun _ _ => rfl))) (pa_cons (pe_op op_add_str (pe_op op_add_str (pe_ix ix_list (pv 2) pe_int (fun _ _ => rfl)) pe_str) (pe_ix ix_list (pv 2) pe_int (fun _ _ => rfl))) (pa_cons (pe_op op_add_str (pe_op op_add_str (pe_ix ix_list (pv 2) pe_int (fun _ _ => rfl)) pe_str) (pe_ix ix_list (pv 2) pe_int (fun _ _ => rfl))) pa_nil)))))) (pv 1) (fun _ _ => rfl))))))), ?_⟩
    -- kind = _law_draw(reel, 5); some = []
    refine ⟨_, rfl, r, 5, rfl, hR, by decide, by decide, fun kd H1 hkd R1 k1 => ?_⟩
    refine ⟨Nat.zero_le _, fun l hl => ?_⟩
    have hlr : l ≠ r := R1.ne hl
    obtain ⟨o0, hR0⟩ := id R1.some
    have hl0 : H l = none := Kp1.fresh k1 hR0 hl
    -- for k in range(2)
    refine ⟨2, rfl, by decide, by decide, for_range (n := 2) (fun i σ H' => ∃ (ps : List Pl) (v : Option V), σ = [some (.ref r), some (.int (kd : Int)), some (.ref l), v] ∧ ReelAt H' r ∧ Kp1 r H H' ∧ H' l = some (.lst (ps.map fun p => V.str p.txt)) ∧ (∀ p ∈ ps, p.ok) ∧ ps.length = i)
      ⟨[], none, rfl, R1.new hl, k1.trans (Kp1.new hl), upd_same, fun _ h => (by cases h), rfl⟩ ?_ ?_⟩
    · rintro i σ H' hi ⟨ps, v, rfl, R2, k2, hL, hps, hlen⟩
      have hsz : (ps.map fun p => V.str p.txt).length < sizeLine := by
        rw [List.length_map, hlen]
        exact Nat.lt_trans hi (by decide)
      refine ⟨_, rfl, r, 2, rfl, R2, by decide, by decide, fun d H3 hd R3 k3 => ⟨rfl, _, rfl, ite2 (fun hz => ?_) (fun hz => ?_)⟩⟩
      · -- some.append(str(_law_draw(reel, [5, 5, 5, 1000][_law_draw(reel, 4)])))
        have hL3 := k3 _ _ hL hlr
        refine ⟨_, rfl, .inl ⟨rfl, _, SqL.of hL3⟩, ?_⟩
        refine ⟨_, rfl, by show 4 ≤ sizeLine; decide, fun p hp => ⟨_, rfl, r, 4, rfl, R3.new hp, by decide, by decide, fun d4 H4 hd4 R4 k4 => ?_⟩⟩
        have npr : p ≠ r := R3.ne hp
        have hp4 := k4 _ _ (upd_same (H := H3) (a := p)) npr
        obtain ⟨m, hm, em⟩ := menu_at [5, 5, 5, 1000] d4 (by show d4 < 4; omega)
        have hm2 : 0 < m ∧ m ≤ 1000 := by
          simp only [List.mem_cons, List.not_mem_nil, or_false] at hm
          omega
        refine ⟨_, _, _, _, rfl, rfl, SqL.of hp4, em, r, m, rfl, R4, by omega, by omega, fun d5 H5 hd5 R5 k5 => ?_⟩
        have k35 : Kp1 r H3 H5 := ((Kp1.new hp).trans k4).trans k5
        refine ⟨_, rfl, log_small (by omega), l, _, _, rfl, rfl, k35 _ _ hL3 hlr, hsz, ?_⟩
        have nl : ∀ o, L2.upd H5 l o r = H5 r := fun o => upd_ne hlr.symm
        refine ⟨ps ++ [.num d5], _, rfl, R5.keep fun o e => by rw [nl]; exact e, fun a o e n => ?_, ?_, ?_, ?_⟩
        · rw [upd_ne (ne_of_none e hl0)]
          exact k35 _ _ (k3 _ _ (k2 _ _ e n) n) n
        · rw [upd_same, List.map_append]
          rfl
        · intro p hp
          rcases List.mem_append.mp hp with hp | hp
          · exact hps p hp
          · rw [List.mem_singleton.mp hp]
            show d5 < 1000
            omega
        · rw [List.length_append, hlen]
          rfl
      · have hL3 := k3 _ _ hL hlr
        refine ⟨_, rfl, .inl ⟨rfl, _, SqL.of hL3⟩, ?_⟩
        refine ⟨_, rfl, by show 3 ≤ sizeLine; decide, fun p hp => ⟨_, rfl, r, 3, rfl, R3.new hp, by decide, by decide, fun d4 H4 hd4 R4 k4 => ?_⟩⟩
        have npr : p ≠ r := R3.ne hp
        have hp4 := k4 _ _ (upd_same (H := H3) (a := p)) npr
        obtain ⟨m, hm, em⟩ := menu_at [2, 2, 8] d4 (by show d4 < 3; omega)
        have hm2 : 0 < m ∧ m ≤ 8 := by
          simp only [List.mem_cons, List.not_mem_nil, or_false] at hm
          omega
        refine ⟨_, _, _, _, rfl, rfl, SqL.of hp4, em, r, m, rfl, R4, by omega, by omega, fun d5 H5 hd5 R5 k5 => ?_⟩
        have k35 : Kp1 r H3 H5 := ((Kp1.new hp).trans k4).trans k5
        refine ⟨_, _, _, rfl, rfl, letters_len, letter_at d5 (by omega), l, _, _, rfl, rfl, k35 _ _ hL3 hlr, hsz, ?_⟩
        have nl : ∀ o, L2.upd H5 l o r = H5 r := fun o => upd_ne hlr.symm
        refine ⟨ps ++ [.box d5], _, rfl, R5.keep fun o e => by rw [nl]; exact e, fun a o e n => ?_, ?_, ?_, ?_⟩
        · rw [upd_ne (ne_of_none e hl0)]
          exact k35 _ _ (k3 _ _ (k2 _ _ e n) n) n
        · rw [upd_same, List.map_append]
          rfl
        · intro p hp
          rcases List.mem_append.mp hp with hp | hp
          · exact hps p hp
          · rw [List.mem_singleton.mp hp]
            show d5 < 8
            omega
        · rw [List.length_append, hlen]
          rfl
    · rintro σ H' ⟨ps, v, rfl, R2, k2, hL, hps, hlen⟩
      obtain ⟨a, b, rfl⟩ : ∃ a b, ps = [a, b] := match ps, hlen with | [a, b], _ => ⟨a, b, rfl⟩
      have ha := hps a (by simp)
      have hb := hps b (by simp)
      have la := Pl.len ha
      have lb := Pl.len hb
      have l1 : ("+" : Str).length = 1 := by decide +kernel
      have l2 : ("-" : Str).length = 1 := by decide +kernel
      have z1 : (a.txt).length + ("+" : Str).length ≤ sizeLine := Nat.le_trans (by omega : _ ≤ 4) (by decide)
      have z2 : (a.txt).length + ("-" : Str).length ≤ sizeLine := Nat.le_trans (by omega : _ ≤ 4) (by decide)
      have z3 : (a.txt ++ ("+" : Str)).length + b.txt.length ≤ sizeLine := by rw [len_app]; exact Nat.le_trans (by omega : _ ≤ 7) (by decide)
      have z4 : (a.txt ++ ("-" : Str)).length + b.txt.length ≤ sizeLine := by rw [len_app]; exact Nat.le_trans (by omega : _ ≤ 7) (by decide)
      refine ⟨_, rfl, _, _, _, _, rfl, rfl, SqL.of hL, rfl, _, rfl, _, _, _, _, rfl, rfl, SqL.of hL, rfl, ?_⟩
      refine ⟨_, rfl, _, _, _, _, rfl, rfl, SqL.of hL, rfl, _, _, rfl, rfl, z1, _, rfl, _, _, _, _, rfl, rfl, SqL.of hL, rfl, _, _, rfl, rfl, z3, ?_⟩
      refine ⟨_, rfl, _, _, _, _, rfl, rfl, SqL.of hL, rfl, _, _, rfl, rfl, z2, _, rfl, _, _, _, _, rfl, rfl, SqL.of hL, rfl, _, _, rfl, rfl, z4, ?_⟩
      refine ⟨_, rfl, _, _, _, _, rfl, rfl, SqL.of hL, rfl, _, _, rfl, rfl, z1, _, rfl, _, _, _, _, rfl, rfl, SqL.of hL, rfl, _, _, rfl, rfl, z3, ?_⟩
      refine ⟨by show 5 ≤ sizeLine; decide, fun p hp => ?_⟩
      have fin : ∀ e : Wo, e.ok → Q (.str e.txt) (L2.upd H' p (.lst [.str a.txt, .str b.txt, .str (a.txt ++ "+" ++ b.txt), .str (a.txt ++ "-" ++ b.txt), .str (a.txt ++ "+" ++ b.txt)])) := fun e he => q e _ he (R2.new hp) (k2.trans (Kp1.new hp))
      have hk5 : kd < 5 := by omega
      refine ⟨_, rfl, ?_⟩
      have e5 : kd = 0 ∨ kd = 1 ∨ kd = 2 ∨ kd = 3 ∨ kd = 4 := by omega
      rcases e5 with rfl | rfl | rfl | rfl | rfl
      · exact ⟨_, _, _, _, rfl, rfl, SqL.of upd_same, rfl, fin (.pl a) ha⟩
      · exact ⟨_, _, _, _, rfl, rfl, SqL.of upd_same, rfl, fin (.pl b) hb⟩
      · exact ⟨_, _, _, _, rfl, rfl, SqL.of upd_same, rfl, fin (.add a b) ⟨ha, hb⟩⟩
      · exact ⟨_, _, _, _, rfl, rfl, SqL.of upd_same, rfl, fin (.sub a b) ⟨ha, hb⟩⟩
      · exact ⟨_, _, _, _, rfl, rfl, SqL.of upd_same, rfl, fin (.add a b) ⟨ha, hb⟩⟩
end
end K72

set_option Elab.async false
set_option linter.all false
set_option maxRecDepth 100000
set_option maxHeartbeats 4000000
/-! _law_row -/
namespace K72
open PySem PySem.Spec PyProof.Rows L2 TL
local macro_rules | `(tactic| walk_at "nz") => `(tactic| (show ¬ (_ : Int) = 0; decide))
local macro_rules | `(tactic| walk_at "sz") => `(tactic| ((try simp only [len_app]); refine Nat.le_trans (m := 1000) ?_ (by decide); omega))
theorem txt3 (a b c : Str) : Txt.join " " [a, b, c] = a ++ " " ++ b ++ " " ++ c := by
  rw [join_eq]
  show a ++ " " ++ (b ++ " " ++ c) = _
  simp only [app_assoc]
theorem txt2 (a b : Str) : Txt.join " " [a, b] = a ++ " " ++ b := by
  rw [join_eq]
  rfl
theorem txt4 (a b c d : Str) : Txt.join " " [a, b, c, d] = a ++ " " ++ b ++ " " ++ c ++ " " ++ d := by
  rw [join_eq]
  show a ++ " " ++ (b ++ " " ++ (c ++ " " ++ d)) = _
  simp only [app_assoc]
theorem txt6 (a b c d e g : Str) : Txt.join " " [a, b, c, d, e, g] = a ++ " " ++ b ++ " " ++ c ++ " " ++ d ++ " " ++ e ++ " " ++ g := by
  rw [join_eq]
  show a ++ " " ++ (b ++ " " ++ (c ++ " " ++ (d ++ " " ++ (e ++ " " ++ g)))) = _
  simp only [app_assoc]
theorem row_load (b c : Nat) : ("load " : Str) ++ letS b ++ " " ++ numS c = (Rw.load b c).txt := by
  rw [show ("load " : Str) = "load" ++ " " by decide +kernel]
  exact (txt3 _ _ _).symm
theorem row_store (c : Nat) (e : Wo) : ("store " : Str) ++ numS c ++ " " ++ e.txt = (Rw.store c e).txt := by
  rw [show ("store " : Str) = "store" ++ " " by decide +kernel]
  exact (txt3 _ _ _).symm
theorem row_swap (b c : Nat) (e : Wo) : ("swap " : Str) ++ letS b ++ " " ++ numS c ++ " " ++ e.txt = (Rw.swap b c e).txt := by
  rw [show ("swap " : Str) = "swap" ++ " " by decide +kernel]
  exact (txt4 _ _ _ _).symm
theorem row_let (b : Nat) (e : Wo) : ("let " : Str) ++ letS b ++ " " ++ e.txt = (Rw.let_ b e).txt := by
  rw [show ("let " : Str) = "let" ++ " " by decide +kernel]
  exact (txt3 _ _ _).symm
theorem row_say (e : Wo) : ("say " : Str) ++ e.txt = (Rw.say e).txt := by
  rw [show ("say " : Str) = "say" ++ " " by decide +kernel]
  exact (txt2 _ _).symm
theorem row_go (k : Nat) : ("go " : Str) ++ numS k = (Rw.go k).txt := by
  rw [show ("go " : Str) = "go" ++ " " by decide +kernel]
  exact (txt2 _ _).symm
theorem row_unl (q : Bool) (x y : Wo) (k : Nat) : ("unless " : Str) ++ x.txt ++ (if q then (" = " : Str) else " < ") ++ y.txt ++ " go " ++ numS k = (Rw.unl q x y k).txt := by
  rw [show ("unless " : Str) = "unless" ++ " " by decide +kernel, show (" go " : Str) = " " ++ "go" ++ " " by decide +kernel]
  refine Eq.trans ?_ (txt6 _ _ _ _ _ _).symm
  cases q with
  | true =>
    show "unless" ++ " " ++ x.txt ++ (" = " : Str) ++ y.txt ++ (" " ++ "go" ++ " ") ++ numS k = "unless" ++ " " ++ x.txt ++ " " ++ "=" ++ " " ++ y.txt ++ " " ++ "go" ++ " " ++ numS k
    rw [show (" = " : Str) = " " ++ "=" ++ " " by decide +kernel]
    simp only [app_assoc]
  | false =>
    show "unless" ++ " " ++ x.txt ++ (" < " : Str) ++ y.txt ++ (" " ++ "go" ++ " ") ++ numS k = "unless" ++ " " ++ x.txt ++ " " ++ "<" ++ " " ++ y.txt ++ " " ++ "go" ++ " " ++ numS k
    rw [show (" < " : Str) = " " ++ "<" ++ " " by decide +kernel]
    simp only [app_assoc]
section
variable {P : Program} {w : World} {K : PySem.W.Frag} {mg : Str → Option Value} {base : Heap} {f : Addr} {fd : FuncData}
theorem sc__law_row : FnScope ["reel", "cells", "rows", "kind", "box", "cell", "e", "to"] ["reel", "cells", "rows"] (defScope s__law_row) := ⟨rfl, rfl, rfl, by decide +kernel, rfl, by decide +kernel, by decide +kernel⟩
theorem ok__law_row (T : Txt K mg) (F : FnP K "_law_row" "_law_row" s__law_row [] f fd) (h__law_draw : Def1 P w K mg base "_law_draw" ["reel", "many"] [] 1 sp_law_draw)
    (h__law_e : Def1 P w K mg base "_law_e" ["reel"] [] 2 sp_law_e) : FnOk P w K mg base CX0 3 f fd ["reel", "cells", "rows"] sp_law_row := by
  refine fok F sc__law_row (fun vs H Q E h => ?_) (fun cdv A outer s H vs Q E hr h => ?_)
  · obtain ⟨_, _, _, rfl, _⟩ := h
    rfl
  · obtain ⟨r, cells, rows, rfl, hR, hc1, hc2, hrw, q⟩ := h
    refine ⟨_, (pss_cons (ps_set (i := 3) sc__law_row.nd rfl (Or.inl rfl) (pe_cl h__law_draw hr (pa_cons (pv 0) (pa_cons pe_int pa_nil))))
  (pss_cons (ps_set (i := 4) sc__law_row.nd rfl (Or.inl rfl) (pe_ix ix_str pe_str (pe_cl h__law_draw hr (pa_cons (pv 0) (pa_cons (pe_ix ix_list (pe_lst (pa_cons pe_int (pa_cons pe_int (pa_cons pe_int pa_nil)))) (pe_cl h__law_draw hr (pa_cons (pv 0) (pa_cons pe_int pa_nil))) (fun _ _ => rfl)) pa_nil))) (fun _ _ => rfl)))
  (pss_cons (ps_set (i := 5) sc__law_row.nd rfl (Or.inl rfl) (pe_callTy call_str_int (by rfl) T.n_str (by decide +kernel) (pa_cons (pe_cl h__law_draw hr (pa_cons (pv 0) (pa_cons (pv 1) pa_nil))) pa_nil)))
  (pss_cons (ps_set (i := 6) sc__law_row.nd rfl (Or.inl rfl) (pe_cl h__law_e hr (pa_cons (pv 0) pa_nil)))
  (pss_cons (ps_if (pt_cmpR op_lt (pv 3) pe_int (nomark _))
  (pss_one (ps_ret (pe_op op_add_str (pe_op op_add_str (pe_op op_add_str pe_str (pv 4)) pe_str) (pv 5))))
  pss_nil)
  (pss_cons (ps_if (pt_cmpR op_lt (pv 3) pe_int (nomark _))
  (pss_one (ps_ret (pe_op op_add_str (pe_op op_add_str (pe_op op_add_str pe_str (pv 5)) pe_str) (pv 6))))
  pss_nil)
  (pss_cons (ps_if (pt_cmpR op_lt (pv 3) pe_int (nomark _))
  (pss_one (ps_ret (pe_op op_add_str (pe_op op_add_str (pe_op op_add_str (pe_op op_add_str (pe_op op_add_str pe_str (pv 4)) pe_str) (pv 5)) pe_str) (pv 6))))
  pss_nil)
  (pss_cons (ps_if (pt_cmpR op_lt (pv 3) pe_int (nomark _))
  (pss_one (ps_ret (pe_ix ix_list (pe_lst (pa_cons (pe_op op_add_str (pe_op op_add_str (pe_op op_add_str pe_str (pv 4)) pe_str) (pv 6)) (pa_cons (pe_op op_add_str pe_str (pv 6)) (pa_cons (pe_op op_add_str pe_str (pv 4)) pa_nil)))) (pe_op op_sub (pv 3) pe_int) (fun _ _ => rfl))))
  pss_nil)
  (pss_cons (ps_set (i := 7) sc__law_row.nd rfl (Or.inl rfl) (pe_callTy call_str_int (by rfl) T.n_str (by decide +kernel) (pa_cons (pe_cl h__law_draw hr (pa_cons (pv 0) (pa_cons (pe_op op_add (pv 2) pe_int) pa_nil))) pa_nil)))
  (pss_cons (ps_if (pt_cmpR op_eq (pv 3) pe_int (nomark _))
  (pss_one (ps_ret (pe_op op_add_str pe_str (pv 7))))
  pss_nil)
  (pss_one (ps_ret (pe_op op_add_str (pe_op op_add_str (pe_op op_add_str (pe_op op_add_str (pe_op op_add_str pe_str (pv 6)) (pe_ix ix_list (pe_lst (pa_cons pe_str (pa_cons pe_str pa_nil))) (pe_op op_sub (pv 3) pe_int) (fun _ _ => rfl))) (pe_cl h__law_e hr (pa_cons (pv 0) pa_nil))) pe_str) (pv 7)))))))))))))), ?_⟩
    -- kind; box
    refine ⟨_, rfl, r, 16, rfl, hR, by decide, by decide, fun kd H1 hkd R1 k1 => ?_⟩
    refine ⟨_, rfl, by show 3 ≤ sizeLine; decide, fun p hp => ⟨_, rfl, r, 3, rfl, R1.new hp, by decide, by decide, fun d2 H2 hd2 R2 k2 => ?_⟩⟩
    have npr : p ≠ r := R1.ne hp
    have hp2 := k2 _ _ (upd_same (H := H1) (a := p)) npr
    obtain ⟨m, hm, em⟩ := menu_at [2, 2, 8] d2 (by show d2 < 3; omega)
    have hm2 : 0 < m ∧ m ≤ 8 := by
      simp only [List.mem_cons, List.not_mem_nil, or_false] at hm
      omega
    refine ⟨_, _, _, _, rfl, rfl, SqL.of hp2, em, r, m, rfl, R2, by omega, by omega, fun b H3 hb R3 k3 => ?_⟩
    refine ⟨_, _, _, rfl, rfl, letters_len, letter_at b (by omega), ?_⟩
    have k13 : Kp1 r H H3 := (k1.trans (Kp1.new hp)).trans (k2.trans k3)
    -- cell; e
    refine ⟨_, rfl, _, rfl, r, _, rfl, R3, by omega, by omega, fun c H4 hc R4 k4 => ⟨_, rfl, log_small (by omega), ?_⟩⟩
    refine ⟨_, rfl, r, rfl, R4, fun e H5 he R5 k5 => ?_⟩
    have k15 : Kp1 r H H5 := k13.trans (k4.trans k5)
    have hb8 : b < 8 := by omega
    have hcc : c < cells := by omega
    have le := Wo.len he
    have lc : (numS c).length ≤ 3 := len_numS (by omega)
    have lb : (letS b).length = 1 := len_letS b
    have n1 : ("load " : Str).length = 5 := by decide +kernel
    have n2 : ("store " : Str).length = 6 := by decide +kernel
    have n3 : ("swap " : Str).length = 5 := by decide +kernel
    have n4 : (" " : Str).length = 1 := by decide +kernel
    have n5 : ("let " : Str).length = 4 := by decide +kernel
    have n6 : ("say " : Str).length = 4 := by decide +kernel
    have n7 : ("go " : Str).length = 3 := by decide +kernel
    have n8 : ("unless " : Str).length = 7 := by decide +kernel
    have n9 : (" = " : Str).length = 3 := by decide +kernel
    have n10 : (" < " : Str).length = 3 := by decide +kernel
    have n11 : (" go " : Str).length = 4 := by decide +kernel
    refine ⟨_, rfl, _, _, rfl, rfl, _, rfl, ite2 (fun h1 => ?_) (fun h1 => ?_)⟩
    · refine ⟨_, rfl, _, _, rfl, rfl, (show ("load " : Str).length + (letS b).length ≤ sizeLine by walk_at "sz"), _, _, rfl, rfl, (show ("load " ++ letS b : Str).length + (" " : Str).length ≤ sizeLine by walk_at "sz"), _, rfl, _, _, rfl, rfl, (show ("load " ++ letS b ++ " " : Str).length + (numS c).length ≤ sizeLine by walk_at "sz"), ?_⟩
      show Q (.str ("load " ++ letS b ++ " " ++ numS c)) H5
      rw [row_load]
      exact q (.load b c) H5 ⟨hb8, hcc⟩ R5 k15
    refine ⟨_, rfl, _, _, rfl, rfl, _, rfl, ite2 (fun h2 => ?_) (fun h2 => ?_)⟩
    · refine ⟨_, rfl, _, _, rfl, rfl, (show ("store " : Str).length + (numS c).length ≤ sizeLine by walk_at "sz"), _, _, rfl, rfl, (show ("store " ++ numS c : Str).length + (" " : Str).length ≤ sizeLine by walk_at "sz"), _, rfl, _, _, rfl, rfl, (show ("store " ++ numS c ++ " " : Str).length + e.txt.length ≤ sizeLine by walk_at "sz"), ?_⟩
      show Q (.str ("store " ++ numS c ++ " " ++ e.txt)) H5
      rw [row_store]
      exact q (.store c e) H5 ⟨hcc, he⟩ R5 k15
    refine ⟨_, rfl, _, _, rfl, rfl, _, rfl, ite2 (fun h3 => ?_) (fun h3 => ?_)⟩
    · refine ⟨_, rfl, _, _, rfl, rfl, (show ("swap " : Str).length + (letS b).length ≤ sizeLine by walk_at "sz"), _, _, rfl, rfl, (show ("swap " ++ letS b : Str).length + (" " : Str).length ≤ sizeLine by walk_at "sz"), _, rfl, _, _, rfl, rfl, (show ("swap " ++ letS b ++ " " : Str).length + (numS c).length ≤ sizeLine by walk_at "sz"),
        _, _, rfl, rfl, (show ("swap " ++ letS b ++ " " ++ numS c : Str).length + (" " : Str).length ≤ sizeLine by walk_at "sz"), _, rfl, _, _, rfl, rfl, (show ("swap " ++ letS b ++ " " ++ numS c ++ " " : Str).length + e.txt.length ≤ sizeLine by walk_at "sz"), ?_⟩
      show Q (.str ("swap " ++ letS b ++ " " ++ numS c ++ " " ++ e.txt)) H5
      rw [row_swap]
      exact q (.swap b c e) H5 ⟨hb8, hcc, he⟩ R5 k15
    have h1' : ¬ (kd : Int) < 4 := fun z => h1 (decide_eq_true z)
    have h2' : ¬ (kd : Int) < 8 := fun z => h2 (decide_eq_true z)
    have h3' : ¬ (kd : Int) < 10 := fun z => h3 (decide_eq_true z)
    refine ⟨_, rfl, _, _, rfl, rfl, _, rfl, ite2 (fun h4 => ?_) (fun h4 => ?_)⟩
    · have h4' := of_decide_eq_true h4
      refine ⟨_, rfl, _, _, rfl, rfl, (show ("let " : Str).length + (letS b).length ≤ sizeLine by walk_at "sz"), _, _, rfl, rfl, (show ("let " ++ letS b : Str).length + (" " : Str).length ≤ sizeLine by walk_at "sz"), _, rfl, _, _, rfl, rfl, (show ("let " ++ letS b ++ " " : Str).length + e.txt.length ≤ sizeLine by walk_at "sz"), ?_⟩
      refine ⟨_, rfl, _, _, rfl, rfl, (show ("say " : Str).length + e.txt.length ≤ sizeLine by walk_at "sz"), _, rfl, _, _, rfl, rfl, (show ("say " : Str).length + (letS b).length ≤ sizeLine by walk_at "sz"), ?_⟩
      refine ⟨by show 3 ≤ sizeLine; decide, fun p5 hp5 => ⟨_, rfl, _, _, rfl, rfl, ?_⟩⟩
      have fin : ∀ (x : Rw) (o : HO), x.ok cells rows → Q (.str x.txt) (L2.upd H5 p5 o) := fun x o hx => q x _ hx (R5.new hp5) (k15.trans (Kp1.new hp5))
      have e3 : kd = 10 ∨ kd = 11 ∨ kd = 12 := by omega
      rcases e3 with rfl | rfl | rfl
      · refine ⟨_, _, _, _, rfl, rfl, SqL.of upd_same, rfl, ?_⟩
        show Q (.str ("let " ++ letS b ++ " " ++ e.txt)) _
        rw [row_let]
        exact fin (.let_ b e) _ ⟨hb8, he⟩
      · refine ⟨_, _, _, _, rfl, rfl, SqL.of upd_same, rfl, ?_⟩
        show Q (.str ("say " ++ e.txt)) _
        rw [row_say]
        exact fin (.say e) _ he
      · refine ⟨_, _, _, _, rfl, rfl, SqL.of upd_same, rfl, ?_⟩
        show Q (.str ("say " ++ (Wo.pl (.box b)).txt)) _
        rw [row_say]
        exact fin (.say (.pl (.box b))) _ hb8
    have h4' : ¬ (kd : Int) < 13 := fun z => h4 (decide_eq_true z)
    -- to
    refine ⟨_, rfl, _, rfl, _, _, rfl, rfl, r, _, rfl, R5, by omega, by omega, fun k H6 hk R6 k6 => ⟨_, rfl, log_small (by omega), ?_⟩⟩
    have hkk : k ≤ rows := by omega
    have lk : (numS k).length ≤ 3 := len_numS (by omega)
    have k16 := k15.trans k6
    refine ⟨_, rfl, rfl, _, rfl, ite2 (fun h5 => ?_) (fun h5 => ?_)⟩
    · refine ⟨_, rfl, _, _, rfl, rfl, (show ("go " : Str).length + (numS k).length ≤ sizeLine by walk_at "sz"), ?_⟩
      show Q (.str ("go " ++ numS k)) H6
      rw [row_go]
      exact q (.go k) H6 hkk R6 k16
    have h5' : ¬ kd = 13 := fun z => h5 (decide_eq_true (by rw [z] <;> rfl))
    refine ⟨_, rfl, _, _, rfl, rfl, (show ("unless " : Str).length + e.txt.length ≤ sizeLine by walk_at "sz"), ?_⟩
    refine ⟨by show 2 ≤ sizeLine; decide, fun p7 hp7 => ⟨_, rfl, _, _, rfl, rfl, ?_⟩⟩
    have go2 : ∀ (b7 : Bool), (∃ z : Str, z = (if b7 then (" = " : Str) else " < ") ∧ atI [V.str " = ", V.str " < "] ((kd : Int) - 14) = some (.str z)) → ∃ p xs i v, V.ref p7 = .ref p ∧ V.int ((kd : Int) - 14) = .int i ∧ SqL K (L2.upd H6 p7 (.lst [.str " = ", .str " < "])) p xs ∧ atI xs i = some v ∧
        ∃ a z, V.str ("unless " ++ e.txt) = .str a ∧ v = .str z ∧ a.length + z.length ≤ sizeLine ∧ ∀ (y : Wo) (H7 : Hp), y.ok → ReelAt H7 r → Kp1 r (L2.upd H6 p7 (.lst [.str " = ", .str " < "])) H7 → (a ++ z).length + y.txt.length ≤ sizeLine ∧ (a ++ z ++ y.txt).length + (" go " : Str).length ≤ sizeLine ∧ (a ++ z ++ y.txt ++ " go ").length + (numS k).length ≤ sizeLine ∧ Q (.str (a ++ z ++ y.txt ++ " go " ++ numS k)) H7 := by
      rintro b7 ⟨z, rfl, hz⟩
      have lz : (if b7 then (" = " : Str) else " < ").length = 3 := by cases b7 <;> decide +kernel
      refine ⟨_, _, _, _, rfl, rfl, SqL.of upd_same, hz, _, _, rfl, rfl, by walk_at "sz", fun y H7 hy R7 k7 => ?_⟩
      have ly := Wo.len hy
      refine ⟨by walk_at "sz", by walk_at "sz", by walk_at "sz", ?_⟩
      rw [row_unl]
      exact q (.unl b7 e y k) H7 ⟨he, hy, hkk⟩ R7 ((k16.trans (Kp1.new hp7)).trans k7)
    have fin : ∃ (b7 : Bool), (∃ z : Str, z = (if b7 then (" = " : Str) else " < ") ∧ atI [V.str " = ", V.str " < "] ((kd : Int) - 14) = some (.str z)) := by
      have e2 : kd = 14 ∨ kd = 15 := by omega
      rcases e2 with rfl | rfl
      · exact ⟨true, _, rfl, rfl⟩
      · exact ⟨false, _, rfl, rfl⟩
    obtain ⟨b7, hb7⟩ := fin
    obtain ⟨p, xs, i, v, e1, e2, e3, e4, a, z, e5, e6, e7, hgo⟩ := go2 b7 hb7
    refine ⟨p, xs, i, v, e1, e2, e3, e4, a, z, e5, e6, e7, _, rfl, r, rfl, R6.new hp7, fun y H7 hy R7 k7 => ?_⟩
    obtain ⟨s1, s2, s3, hq⟩ := hgo y H7 hy R7 k7
    exact ⟨_, _, rfl, rfl, s1, _, _, rfl, rfl, s2, _, rfl, _, _, rfl, rfl, s3, hq⟩
end
end K72

set_option Elab.async false
set_option linter.all false
set_option maxRecDepth 100000
set_option maxHeartbeats 4000000
/-! _law_program -/
namespace K72
open PySem PySem.Spec PyProof.Rows L2 TL
def sp_law_program (K : PySem.W.Frag) : Sp := fun vs H Q _ => ∃ (a : Addr) (ns : List Int), vs = [.ref a] ∧ SqL K H a (ns.map V.int) ∧ ∀ (p : Pg) (H' : Hp), p.ok → Same H H' → Q (.str p.txt) H'
theorem map_strs (l : List Str) (x : Str) : l.map V.str ++ [V.str x] = (l ++ [x]).map V.str := by rw [List.map_append] <;> rfl
theorem flat_snoc (hs : List (List Rw)) (h : List Rw) : (hs ++ [h]).flatMap handLines = hs.flatMap handLines ++ handLines h := by
  rw [List.flatMap_append, List.flatMap_cons, List.flatMap_nil, List.append_nil]
section
variable {P : Program} {w : World} {K : PySem.W.Frag} {mg : Str → Option Value} {base : Heap} {f : Addr} {fd : FuncData}
theorem sc__law_program : FnScope ["script", "reel", "hands", "cells", "rows", "hand", "many", "k"] ["script"] (defScope s__law_program) := ⟨rfl, rfl, rfl, by decide +kernel, rfl, by decide +kernel, by decide +kernel⟩
theorem ok__law_program (T : Txt K mg) (F : FnP K "_law_program" "_law_program" s__law_program [] f fd) (h__law_draw : Def1 P w K mg base "_law_draw" ["reel", "many"] [] 1 sp_law_draw)
    (h__law_reel : Def1 P w K mg base "_law_reel" ["cell", "k"] [] 1 sp_law_reel) (h__law_cell : Def1 P w K mg base "_law_cell" ["script", "k"] [] 1 (sp_law_cell K))
    (h__law_row : Def1 P w K mg base "_law_row" ["reel", "cells", "rows"] [] 3 sp_law_row) : FnOk P w K mg base CX0 4 f fd ["script"] (sp_law_program K) := by
  refine fok F sc__law_program (fun vs H Q E h => ?_) (fun cdv A outer s H vs Q E hr h => ?_)
  · obtain ⟨_, _, rfl, _⟩ := h
    rfl
  · obtain ⟨a, ns, rfl, hS, q⟩ := h
    refine ⟨_, (pss_cons (ps_set (i := 1) sc__law_program.nd rfl (Or.inl rfl) (pe_cl h__law_reel hr (pa_cons (pe_cl h__law_cell hr (pa_cons (pv 0) (pa_cons pe_int pa_nil))) (pa_cons pe_int pa_nil))))
  (pss_cons (ps_set (i := 2) sc__law_program.nd rfl (Or.inl rfl) (pe_op op_add pe_int (pe_cl h__law_draw hr (pa_cons (pv 1) (pa_cons (pe_ix ix_list (pe_lst (pa_cons pe_int (pa_cons pe_int (pa_cons pe_int (pa_cons pe_int pa_nil))))) (pe_cl h__law_draw hr (pa_cons (pv 1) (pa_cons pe_int pa_nil))) (fun _ _ => rfl)) pa_nil)))))
  (pss_cons (ps_set (i := 3) sc__law_program.nd rfl (Or.inl rfl) (pe_op op_add pe_int (pe_cl h__law_draw hr (pa_cons (pv 1) (pa_cons (pe_ix ix_list (pe_lst (pa_cons pe_int (pa_cons pe_int (pa_cons pe_int pa_nil)))) (pe_cl h__law_draw hr (pa_cons (pv 1) (pa_cons pe_int pa_nil))) (fun _ _ => rfl)) pa_nil)))))
  (pss_cons (ps_set (i := 4) sc__law_program.nd rfl (Or.inl rfl) (pe_lst (pa_cons (pe_op op_add_str pe_str (pe_callTy call_str_int (by rfl) T.n_str (by decide +kernel) (pa_cons (pv 3) pa_nil))) pa_nil)))
  (pss_cons (ps_for PassesOwn.never rfl (pi_range1 rfl T.n_range (pa_cons (pv 2) pa_nil)) (pg_name (i := 5) sc__law_program.nd rfl (Or.inl rfl))
  (pss_cons (ps_set (i := 1) sc__law_program.nd rfl (Or.inl rfl) (pe_cl h__law_reel hr (pa_cons (pe_cl h__law_cell hr (pa_cons (pv 0) (pa_cons (pe_op op_add pe_int (pv 5)) pa_nil))) (pa_cons (pe_op op_add pe_int (pv 5)) pa_nil))))
  (pss_cons (ps_set (i := 6) sc__law_program.nd rfl (Or.inl rfl) (pe_cl h__law_draw hr (pa_cons (pv 1) (pa_cons (pe_ix ix_list (pe_lst (pa_cons pe_int (pa_cons pe_int (pa_cons pe_int (pa_cons pe_int (pa_cons pe_int (pa_cons pe_int pa_nil))))))) (pe_cl h__law_draw hr (pa_cons (pv 1) (pa_cons pe_int pa_nil))) (fun _ _ => rfl)) pa_nil))))
  (pss_cons (ps_expr (pe_bm PySem.F.plainAttrs_list PySem.F.slot_list_append PySem.F.type_list_append mt_append (pv 4) (pa_cons pe_str pa_nil)))
  (pss_one (ps_for PassesOwn.never rfl (pi_range1 rfl T.n_range (pa_cons (pv 6) pa_nil)) (pg_name (i := 7) sc__law_program.nd rfl (Or.inl rfl))
  (pss_one (ps_expr (pe_bm PySem.F.plainAttrs_list PySem.F.slot_list_append PySem.F.type_list_append mt_append (pv 4) (pa_cons (pe_cl h__law_row hr (pa_cons (pv 1) (pa_cons (pv 3) (pa_cons (pv 6) pa_nil)))) pa_nil))))))))))
  (pss_one (ps_ret (pe_join pe_str (pv 4))))))))), ?_⟩
    -- reel = _law_reel(_law_cell(script, 0), 0)
    refine ⟨_, rfl, a, ns, 0, rfl, hS, fun c0 => ⟨c0, 0, rfl, by decide, fun r H1 hr0 S1 R1 => ?_⟩⟩
    -- hands
    refine ⟨_, rfl, by show 4 ≤ sizeLine; decide, fun p hp => ⟨_, rfl, r, 4, rfl, R1.new hp, by decide, by decide, fun d2 H2 hd2 R2 k2 => ?_⟩⟩
    have npr : p ≠ r := R1.ne hp
    have hp2 := k2 _ _ (upd_same (H := H1) (a := p)) npr
    obtain ⟨m, hm, em⟩ := menu_at [4, 4, 4, 8] d2 (by show d2 < 4; omega)
    have hm2 : 0 < m ∧ m ≤ 8 := by
      simp only [List.mem_cons, List.not_mem_nil, or_false] at hm
      omega
    refine ⟨_, _, _, _, rfl, rfl, SqL.of hp2, em, r, m, rfl, R2, by omega, by omega, fun hd H3 hhd R3 k3 => ⟨_, _, rfl, rfl, ?_⟩⟩
    -- cells
    refine ⟨_, rfl, by show 3 ≤ sizeLine; decide, fun p4 hp4 => ⟨_, rfl, r, 3, rfl, R3.new hp4, by decide, by decide, fun d4 H4 hd4 R4 k4 => ?_⟩⟩
    have npr4 : p4 ≠ r := R3.ne hp4
    have hp44 := k4 _ _ (upd_same (H := H3) (a := p4)) npr4
    obtain ⟨m4, hm4, em4⟩ := menu_at [3, 3, 20] d4 (by show d4 < 3; omega)
    have hm42 : 0 < m4 ∧ m4 ≤ 20 := by
      simp only [List.mem_cons, List.not_mem_nil, or_false] at hm4
      omega
    refine ⟨_, _, _, _, rfl, rfl, SqL.of hp44, em4, r, m4, rfl, R4, by omega, by omega, fun cl H5 hcl R5 k5 => ⟨_, _, rfl, rfl, ?_⟩⟩
    have k15 : Kp1 r H1 H5 := ((Kp1.new hp).trans (k2.trans k3)).trans ((Kp1.new hp4).trans (k4.trans k5))
    have S5 : Same H H5 := k15.same S1 hr0
    have ec : (1 : Int) + (cl : Int) = ((cl + 1 : Nat) : Int) := by omega
    have eh : (1 : Int) + (hd : Int) = ((hd + 1 : Nat) : Int) := by omega
    simp only [ec, eh]
    have hc20 : cl + 1 ≤ 20 := by omega
    have hh8 : hd + 1 ≤ 8 := by omega
    have l6 : ("cells " : Str).length = 6 := by decide +kernel
    have ln : (numS (cl + 1)).length ≤ 3 := len_numS (by omega)
    -- rows = ['cells ' + str(cells)]
    refine ⟨_, rfl, _, rfl, log_small (by omega), _, _, rfl, rfl, (show ("cells " : Str).length + (numS (cl + 1)).length ≤ sizeLine from Nat.le_trans (by omega : _ ≤ 9) (by decide)), by show 1 ≤ sizeLine; decide, fun l hl => ?_⟩
    have hl0 : H l = none := S5.free hl
    -- for hand in range(hands)
    refine ⟨_, rfl, ((hd + 1 : Nat) : Int), rfl, by omega, by omega, for_range (n := hd + 1) (fun i σ H' => ∃ (hs : List (List Rw)) (v1 v5 v6 v7 : Option V), σ = [some (.ref a), v1, some (.int ((hd + 1 : Nat) : Int)), some (.int ((cl + 1 : Nat) : Int)), some (.ref l), v5, v6, v7] ∧
        Same H H' ∧ H' l = some (.lst ((("cells " ++ numS (cl + 1)) :: hs.flatMap handLines).map V.str)) ∧ hs.length = i ∧ ∀ h ∈ hs, h.length ≤ 60 ∧ ∀ r ∈ h, r.ok (cl + 1) h.length)
      ⟨[], _, none, none, none, rfl, S5.trans (Same.new hl), upd_same, rfl, fun _ h => (by cases h)⟩ ?_ ?_⟩
    · rintro i σ H' hi ⟨hs, v1, v5, v6, v7, rfl, S, hL, hlen, hok⟩
      have e1 : (1 : Int) + (0 + (i : Int)) = ((i + 1 : Nat) : Int) := by omega
      -- reel = _law_reel(_law_cell(script, 1 + hand), 1 + hand)
      refine ⟨_, rfl, _, rfl, _, _, rfl, rfl, ?_⟩
      simp only [e1]
      refine ⟨a, ns, i + 1, rfl, S.seq hS, fun c6 => ⟨_, rfl, _, _, rfl, rfl, ?_⟩⟩
      simp only [e1]
      refine ⟨c6, i + 1, rfl, by omega, fun r6 H6 hr6 S6 R6 => ?_⟩
      have n6l : r6 ≠ l := fun e => by
        rw [e, hL] at hr6
        cases hr6
      -- many
      refine ⟨_, rfl, by show 6 ≤ sizeLine; decide, fun p7 hp7 => ⟨_, rfl, r6, 6, rfl, R6.new hp7, by decide, by decide, fun d7 H7 hd7 R7 k7 => ?_⟩⟩
      have npr7 : p7 ≠ r6 := R6.ne hp7
      have hp77 := k7 _ _ (upd_same (H := H6) (a := p7)) npr7
      obtain ⟨m7, hm7, em7⟩ := menu_at [4, 10, 10, 10, 10, 61] d7 (by show d7 < 6; omega)
      have hm72 : 0 < m7 ∧ m7 ≤ 61 := by
        simp only [List.mem_cons, List.not_mem_nil, or_false] at hm7
        omega
      refine ⟨_, _, _, _, rfl, rfl, SqL.of hp77, em7, r6, m7, rfl, R7, by omega, by omega, fun mn H8 hmn R8 k8 => ?_⟩
      have k68 : Kp1 r6 H6 H8 := (Kp1.new hp7).trans (k7.trans k8)
      have S8 : Same H' H8 := k68.same S6 hr6
      -- rows.append('hand')
      have hL8 := S8 _ _ hL
      have hall : (∀ x ∈ hs.flatMap handLines, x.length ≤ 50) ∧ (hs.flatMap handLines).length ≤ hs.length * 61 := lines_bound hok hc20
      have hsz : ∀ z : List Str, z.length ≤ 62 → ((((("cells " ++ numS (cl + 1)) :: hs.flatMap handLines) ++ z).map V.str)).length < sizeLine := fun z hz => by
        rw [List.length_map, List.length_append, List.length_cons]
        exact Nat.lt_of_le_of_lt (by have := hall.2; omega : _ ≤ 1000) (by decide)
      refine ⟨_, rfl, .inl ⟨rfl, _, SqL.of hL8⟩, l, _, _, rfl, rfl, hL8, by have := hsz [] (by decide); rw [List.append_nil] at this; exact this, ?_⟩
      rw [map_strs]
      have hr9 : ∀ o, L2.upd H8 l o r6 = H8 r6 := fun o => upd_ne n6l
      have hr6H : H r6 = none := S.free hr6
      -- for k in range(many)
      refine ⟨_, rfl, (mn : Int), rfl, by omega, by omega, for_range (n := mn) (fun j σ H9 => ∃ (rs : List Rw) (v7 : Option V), σ = [some (.ref a), some (.ref r6), some (.int ((hd + 1 : Nat) : Int)), some (.int ((cl + 1 : Nat) : Int)), some (.ref l), some (.int (0 + (i : Int))), some (.int (mn : Int)), v7] ∧
          Same H H9 ∧ ReelAt H9 r6 ∧ H9 l = some (.lst (((("cells " ++ numS (cl + 1)) :: hs.flatMap handLines) ++ (("hand" : Str) :: rs.map Rw.txt)).map V.str)) ∧ rs.length = j ∧ ∀ r ∈ rs, r.ok (cl + 1) mn)
        ⟨[], v7, rfl, Same.mut (S.trans S8) hl0, R8.keep fun o e => by rw [hr9]; exact e, upd_same, rfl, fun _ h => (by cases h)⟩ ?_ ?_⟩
      · rintro j σ H9 hj ⟨rs, v7, rfl, S9, R9, hL9, hlen9, hok9⟩
        refine ⟨_, rfl, .inl ⟨rfl, _, SqL.of hL9⟩, _, rfl, _, rfl, _, rfl, r6, cl + 1, mn, rfl, R9, by omega, by omega, by omega, fun x H10 hx R10 k10 => ?_⟩
        have hL10 := k10 _ _ hL9 n6l.symm
        refine ⟨l, _, _, rfl, rfl, hL10, hsz _ (by rw [List.length_cons, List.length_map, hlen9]; omega), ?_⟩
        refine ⟨rs ++ [x], _, rfl, fun b o e => ?_, R10.keep fun o e => by rw [upd_ne n6l]; exact e, ?_, ?_, ?_⟩
        · rw [upd_ne (ne_of_none e hl0)]
          exact k10 _ _ (S9 _ _ e) (ne_of_none e hr6H)
        · rw [upd_same]
          simp only [List.map_append, List.map_cons, List.map_nil, List.append_assoc, List.cons_append]
        · rw [List.length_append, hlen9]
          rfl
        · intro z hz
          rcases List.mem_append.mp hz with hz | hz
          · exact hok9 z hz
          · rw [List.mem_singleton.mp hz]
            exact hx
      · rintro σ H9 ⟨rs, v7, rfl, S9, R9, hL9, hlen9, hok9⟩
        refine ⟨hs ++ [rs], _, _, _, _, rfl, S9, ?_, by rw [List.length_append, hlen] <;> rfl, fun z hz => ?_⟩
        · rw [hL9, flat_snoc]
          rfl
        · rcases List.mem_append.mp hz with hz | hz
          · exact hok z hz
          · rw [List.mem_singleton.mp hz, hlen9]
            exact ⟨by omega, hok9⟩
    · rintro σ H' ⟨hs, v1, v5, v6, v7, rfl, S, hL, hlen, hok⟩
      have pok : Pg.ok ⟨cl + 1, hs⟩ := ⟨by show 1 ≤ cl + 1; omega, hc20, by show 1 ≤ hs.length; omega, by show hs.length ≤ 8; omega, hok⟩
      obtain ⟨b1, b2⟩ := Pg.lines_len pok
      refine ⟨⟨_, rfl⟩, _, rfl, _, l, _, rfl, rfl, .inl (SqL.of hL), ?_, q ⟨cl + 1, hs⟩ _ pok S⟩
      have z := sumLen_le b1
      have e1 : ("\n" : Str).length = 1 := by decide +kernel
      rw [e1]
      show sumLen (Pg.lines ⟨cl + 1, hs⟩) + (Pg.lines ⟨cl + 1, hs⟩).length * 1 ≤ 16777216
      omega
end
end K72

set_option Elab.async false
set_option linter.all false
set_option maxRecDepth 100000
set_option maxHeartbeats 4000000
/-! walks of our own: zip(.., strict=True), enumerate(.., start=2) -/
namespace K72
open PySem PySem.Spec PyProof.Rows L2
/-! ### a call of a built-in class with keywords -/
section
variable {M : Model} {A : Around} {E : Value → Shared → Prop} {s : Shared} {env : Env}
theorem keeps_ty (T : String) (h : Heap) (_ : True) : ∃ k, (k = Keeper.frame ∨ k = Keeper.machine ∨ k = Keeper.boundFrame) ∧ PySem.W.Looks M h (keeperOf (.type T)) k :=
  ⟨.machine, .inr (.inl rfl), PySem.W.Looks.of_pure rfl⟩
theorem callWith_tyK {pos : Pos} {T : String} {e : Expr} {rest : List Expr} {kws : List Keyword} {Q : Value → Shared → Prop}
    (h : wpAny M A (spliced (backTo pos (starEach (e :: rest) env))) (fun vs s1 => wpAny M A (evalAll ((backToKw pos (keywordEach kws env)).map (·.2)))
      (fun ks s2 => wpAny M A (call (.type T) vs (((backToKw pos (keywordEach kws env)).filterMap (·.1)).zip ks)) Q E s2) E s1) E s)
    (hall : (backToKw pos (keywordEach kws env)).all (·.1.isSome) = true) (hpl : ((backTo pos (starEach (e :: rest) env)).any (·.1) || (backToKw pos (keywordEach kws env)).any (·.1.isNone)) = false)
    (he : starEach (e :: rest) env = (false, eval e env) :: starEach rest env) :
    wpAny M A (callWith pos (.type T) [] (backTo pos (starEach (e :: rest) env)) (backToKw pos (keywordEach kws env))) Q E s :=
  PySem.W.callWith_of (P := fun _ => True) hpl (keeps_ty T) (evalArgs_kw2 hall (thn h fun vs s1 h1 => thn h1 fun ks s2 h2 => ⟨trivial, h2⟩) he)
end
/-! ### nextOrEnd -/
section
variable {prog : Program} {w : World} {A : Around} {E : Value → Shared → Prop} {s : Shared} {it : Addr} {fp : List Addr} {n i : Nat} {P : Nat → Value → Prop} {St : Nat → Heap → Prop}
theorem noe_item {Q : Option Value → Shared → Prop} (D : Draws prog w A it fp n P St) (hi : i < n) (st : St i s.heap)
    (hQ : ∀ x h' tk, P i x → St (i + 1) h' → Heap.SameBut it s.heap h' → Q (some x) { s with heap := h', toks := tk }) : wpAny (model prog w) A (Builtin.SmallTypes.nextOrEnd (.ref it)) Q E s := by
  unfold Builtin.SmallTypes.nextOrEnd
  exact wpAny_bind (wpAny_attempt (D.item i s _ _ hi st fun x h' tk hp hs hb => wpAny_pure (hQ x h' tk hp hs hb)))
theorem noe_end {Q : Option Value → Shared → Prop} (D : Draws prog w A it fp n P St) (st : St n s.heap)
    (hQ : ∀ h', Heap.ExtBut it s.heap h' → Q none { s with heap := h' }) : wpAny (model prog w) A (Builtin.SmallTypes.nextOrEnd (.ref it)) Q E s := by
  unfold Builtin.SmallTypes.nextOrEnd
  refine wpAny_bind (wpAny_attempt (D.done s _ _ st fun h' e hx he => ?_))
  obtain ⟨o, ho, hc⟩ := he
  exact wpAny_bind (wpAny_isInstance (T := "StopIteration") (b := true) ⟨o, ho, hc⟩ isSubtype_stop (wpAny_pure (hQ _ hx)))
theorem stop_new {α : Type} {Q : α → Shared → Prop} (hh : A.handled = none) (hE : ∀ h' e, (∀ c o, s.heap.get? c = some o → h'.get? c = some o) → (∃ o, h'.get? e = some o ∧ o.cls = .type "StopIteration") → E (.ref e) { s with heap := h' }) :
    wpAny (model prog w) A (Builtin.SmallTypes.stopIteration : Sem α) Q E s := by
  unfold Builtin.SmallTypes.stopIteration
  refine wpAny_bind ?_
  simp only [newExc, newTuple]
  refine wpAny_bind (wpAny_newObj_type ?_ (by size_fits))
  refine wpAny_bind (m := firstArgMember _ _) (wpAny_of_eq (a := Value.none) (by first | rfl | (simp only [firstArgMember]; rfl)) ?_)
  refine wpAny_newObj_type ?_ (by size_fits)
  refine wpAny_raiseNew_none hh (hE _ _ (fun c o e => Heap.get?_push_of_some _ (Heap.get?_push_of_some _ e)) ⟨_, Heap.get?_push_size _ rfl, rfl⟩)
end
/-! ### zip(.., strict=True) over two iterators -/
abbrev IsZipS (h : Heap) (z TI TO : Addr) (f0 : Value) : Prop :=
  h.get? z = some { cls := .type "zip", dict := none, data := .fields #[f0, .bool false, .bool true, .ref TI, .ref TO], slots := #[] }
section
variable {prog : Program} {w : World} {A : Around} {E : Value → Shared → Prop} {s : Shared} {z TI TO i1 i2 : Addr} {fp1 fp2 : List Addr} {n1 n2 i : Nat} {P1 P2 : Nat → Value → Prop} {St1 St2 : Nat → Heap → Prop} {a1 a2 : Value}
theorem zs_item {Q : Value → Shared → Prop} (S : ZipSep2 z TI TO i1 i2 fp1 fp2) (D1 : Draws prog w A i1 fp1 n1 P1 St1) (D2 : Draws prog w A i2 fp2 n2 P2 St2)
    (hz : IsZipS s.heap z TI TO .none) (hTI : IsTupOf2 s.heap TI (.ref i1) (.ref i2)) (hTO : IsTupOf2 s.heap TO a1 a2) (st1 : St1 i s.heap) (st2 : St2 i s.heap) (hlt1 : i < n1) (hlt2 : i < n2)
    (hQ : ∀ x1 x2 h' tk, P1 i x1 → P2 i x2 → IsZipS h' z TI TO (rawInt s.heap.objs.size) → IsTupOf2 h' TO x1 x2 → St1 (i + 1) h' → St2 (i + 1) h' → IsTupOf2 h' s.heap.objs.size x1 x2 → h'.objs.size = s.heap.objs.size + 1 →
      (∀ c o, c ≠ z → c ≠ TO → c ≠ i1 → c ≠ i2 → s.heap.get? c = some o → h'.get? c = some o) → Q (.ref s.heap.objs.size) { s with heap := h', toks := tk }) :
    wpAny (model prog w) A (Builtin.«zip.__next__» ⟨[.ref z], []⟩) (fun fin s' => ∃ v, fin = .done (.ret v) ∧ Q v s') E s := by
  obtain ⟨hp, g, d, tk0, os⟩ := s
  show wpAny _ _ (field (.ref z) 2 >>= _) _ _ _
  refine wpAny_bind (wpAny_field hz rfl (x := .bool true) rfl ?_)
  show wpAny _ _ (field (.ref z) 3 >>= _) _ _ _
  refine wpAny_bind (wpAny_field hz rfl (x := .ref TI) rfl ?_)
  refine wpAny_bind (wpAny_seqItems hTI rfl ?_)
  show wpAny _ _ (Builtin.SmallTypes.ownedTupleIsFree (.ref z) >>= _) _ _ _
  refine wpAny_bind ?_
  unfold Builtin.SmallTypes.ownedTupleIsFree
  refine wpAny_bind (wpAny_field hz rfl (x := .none) rfl (wpAny_pure ?_))
  simp only [if_true]
  refine wpAny_bind (wpAny_rule ?_)
  refine wpAny_bind (wpAny_field hz rfl (x := .ref TO) rfl ?_)
  refine wpAny_bind (wpAny_setField_rec hz (by simp) fun g0 hz0 hs0 => ?_)
  replace hz0 : IsZipS g0 z TI TO .ellipsis := hz0
  replace hs0 : Heap.SameBut z hp g0 := hs0
  refine wpAny_bind ?_
  simp only [List.zipIdx_cons, List.zipIdx_nil, List.forIn_cons, List.forIn_nil]
  refine wpAny_bind (wpAny_bind (wpAny_onRaise ?_))
  show wpAny _ _ (Builtin.SmallTypes.nextOrEnd (.ref i1)) _ _ ⟨g0, g, d, tk0, os⟩
  refine noe_item D1 hlt1 (D1.over st1 hs0 S.zf1) fun x1 p1 tk1 hx1 sn1 hp1 => ?_
  replace hp1 : Heap.SameBut i1 g0 p1 := hp1
  have hU1 : IsTupOf2 p1 TO a1 a2 := hp1.extBut _ _ S.Ti1 (hs0.extBut _ _ S.TOz hTO)
  refine wpAny_bind (wpAny_seqItems (s := ⟨p1, g, d, tk1, os⟩) hU1 rfl ?_)
  refine wpAny_bind (updateSeq_IsTupOf2 (s := ⟨p1, g, d, tk1, os⟩) hU1 fun g1 hT1 hs1 => ?_)
  replace hT1 : IsTupOf2 g1 TO x1 a2 := hT1
  replace hs1 : Heap.SameBut TO p1 g1 := hs1
  refine wpAny_bind (wpAny_letGo (wpAny_pure ?_))
  refine wpAny_bind (wpAny_bind (wpAny_onRaise ?_))
  show wpAny _ _ (Builtin.SmallTypes.nextOrEnd (.ref i2)) _ _ ⟨g1, g, d, tk1, os⟩
  refine noe_item D2 hlt2 (D2.over (D2.over (D2.over st2 hs0 S.zf2) hp1 S.sep1_2) hs1 S.Tf2) fun x2 p2 tk2 hx2 sn2 hp2 => ?_
  replace hp2 : Heap.SameBut i2 g1 p2 := hp2
  have hU2 : IsTupOf2 p2 TO x1 a2 := hp2.extBut _ _ S.Ti2 hT1
  refine wpAny_bind (wpAny_seqItems (s := ⟨p2, g, d, tk2, os⟩) hU2 rfl ?_)
  refine wpAny_bind (updateSeq_IsTupOf2 (s := ⟨p2, g, d, tk2, os⟩) hU2 fun g2 hT2 hs2 => ?_)
  replace hT2 : IsTupOf2 g2 TO x1 x2 := hT2
  replace hs2 : Heap.SameBut TO p2 g2 := hs2
  refine wpAny_bind (wpAny_letGo (wpAny_pure (wpAny_pure ?_)))
  refine wpAny_bind (wpAny_seqItems (s := ⟨g2, g, d, tk2, os⟩) hT2 rfl ?_)
  refine wpAny_bind (wpAny_newTuple ?_)
  have hsz : g2.objs.size = hp.objs.size := by rw [hs2.1, hp2.1, hs1.1, hp1.1, hs0.1]
  have hzz : IsZipS g2 z TI TO .ellipsis := (hs2.extBut _ _ S.TOz.symm (hp2.extBut _ _ S.zi2 (hs1.extBut _ _ S.TOz.symm (hp1.extBut _ _ S.zi1 hz0))))
  have hkk : ∀ c o, c ≠ z → c ≠ TO → c ≠ i1 → c ≠ i2 → hp.get? c = some o → g2.get? c = some o := fun c o cz cT c1 c2 e =>
    (hs2.extBut _ _ cT (hp2.extBut _ _ c2 (hs1.extBut _ _ cT (hp1.extBut _ _ c1 (hs0.extBut _ _ cz e)))))
  have hj1 : St1 (i + 1) g2 := (D1.over (D1.over (D1.over sn1 hs1 S.Tf1) hp2 S.sep2_1) hs2 S.Tf1)
  have hj2 : St2 (i + 1) g2 := (D2.over sn2 hs2 S.Tf2)
  have hzlt : z < g2.objs.size := Heap.lt_size hzz
  show wpAny _ _ (Builtin.SmallTypes.ownedTupleHandOut (.ref z) (.ref g2.objs.size) >>= _) _ _ ⟨g2.push { cls := .type "tuple", data := .seq #[x1, x2] }, g, d, tk2, os⟩
  refine wpAny_bind ?_
  unfold Builtin.SmallTypes.ownedTupleHandOut
  have hz6 : IsZipS (g2.push { cls := .type "tuple", data := .seq #[x1, x2] }) z TI TO .ellipsis := Heap.get?_push_of_some _ hzz
  refine wpAny_bind (wpAny_setField_rec hz6 (by simp) fun h7 hz7 hs7 => ?_)
  replace hz7 : IsZipS h7 z TI TO (rawInt g2.objs.size) := hz7
  refine wpAny_setField_rec hz7 (by simp) fun h8 hz8 hs8 => ?_
  replace hz8 : IsZipS h8 z TI TO (rawInt g2.objs.size) := hz8
  replace hs7 : Heap.SameBut z (g2.push { cls := .type "tuple", data := .seq #[x1, x2] }) h7 := hs7
  replace hs8 : Heap.SameBut z h7 h8 := hs8
  have up : ∀ c o, c ≠ z → g2.get? c = some o → h8.get? c = some o := fun c o c1 e => hs8.extBut _ _ c1 (hs7.extBut _ _ c1 (Heap.get?_push_of_some _ e))
  have hT8 : IsTupOf2 h8 g2.objs.size x1 x2 := hs8.extBut _ _ (Nat.ne_of_gt hzlt) (hs7.extBut _ _ (Nat.ne_of_gt hzlt) (Heap.get?_push_size _ rfl))
  have hzs : h8.objs.size = g2.objs.size + 1 := by rw [hs8.1, hs7.1, Heap.size_push]
  rw [hsz] at hz8 hT8 hzs
  refine wpAny_pure ⟨_, rfl, ?_⟩
  show Q (.ref g2.objs.size) ⟨h8, g, d, tk2, os⟩
  rw [hsz]
  exact hQ x1 x2 h8 tk2 hx1 hx2 hz8 (up _ _ S.TOz hT2) (D1.frame _ _ _ hj1 fun b hb o e => up b o (fun q => S.zf1 (q ▸ hb)) e) (D2.frame _ _ _ hj2 fun b hb o e => up b o (fun q => S.zf2 (q ▸ hb)) e) hT8 hzs fun c o cz cT c1 c2 e => up c o cz (hkk c o cz cT c1 c2 e)
def zb (i : Nat) : String := if i == 1 then "argument 1" else s!"arguments 1-{i}"
/-- both have ended -/
theorem zs_stop {F : List Value → Nat → Sem Fin} (hF : ∀ its i, F its i = (do
      if i > 0 then
        rule "zip.__next__.shorter"; raiseError "ValueError" s!"zip() argument {i + 1} is shorter than {zb i}"
      for (it, j) in (its.drop 1).zipIdx 1 do
        if (← Builtin.SmallTypes.nextOrEnd it).isSome then
          rule "zip.__next__.longer"; raiseError "ValueError" s!"zip() argument {j + 1} is longer than {zb j}"
      rule "zip.__next__.all-ended"; Builtin.SmallTypes.stopIteration)) {Q : Fin → Shared → Prop} (hh : A.handled = none) (D2 : Draws prog w A i2 fp2 n2 P2 St2) (st2 : St2 n2 s.heap)
    (hE : ∀ h' e, (∀ c o, c ≠ i2 → s.heap.get? c = some o → h'.get? c = some o) → (∃ o, h'.get? e = some o ∧ o.cls = .type "StopIteration") → E (.ref e) { s with heap := h' }) :
    wpAny (model prog w) A (F [.ref i1, .ref i2] 0) Q E s := by
  rw [hF]
  show wpAny _ _ (if (0 : Nat) > 0 then _ else _) _ _ _
  rw [if_neg (Nat.lt_irrefl 0)]
  refine wpAny_bind ?_
  simp only [List.drop_succ_cons, List.drop_zero, List.zipIdx_cons, List.zipIdx_nil, List.forIn_cons, List.forIn_nil]
  refine wpAny_bind (wpAny_bind (noe_end D2 st2 fun q hq => ?_))
  show wpAny _ _ (if (Option.isSome (none : Option Value)) = true then _ else _) _ _ _
  rw [if_neg (by decide)]
  refine wpAny_pure (wpAny_pure (wpAny_bind (wpAny_rule ?_)))
  exact stop_new hh fun h' e hk he => hE h' e (fun c o hc x => hk _ _ (hq _ _ hc x)) he
theorem zs_end {Q : Fin → Shared → Prop} (hh : A.handled = none) (S : ZipSep2 z TI TO i1 i2 fp1 fp2) (D1 : Draws prog w A i1 fp1 n1 P1 St1) (D2 : Draws prog w A i2 fp2 n2 P2 St2)
    (hz : IsZipS s.heap z TI TO .none) (hTI : IsTupOf2 s.heap TI (.ref i1) (.ref i2)) (hTO : IsTupOf2 s.heap TO a1 a2) (st1 : St1 n1 s.heap) (st2 : St2 n2 s.heap)
    (hE : ∀ h' e, (∀ c o, c ≠ z → c ≠ TO → c ≠ i1 → c ≠ i2 → s.heap.get? c = some o → h'.get? c = some o) → (∃ o, h'.get? e = some o ∧ o.cls = .type "StopIteration") → E (.ref e) { s with heap := h' }) :
    wpAny (model prog w) A (Builtin.«zip.__next__» ⟨[.ref z], []⟩) Q E s := by
  obtain ⟨hp, g, d, tk0, os⟩ := s
  show wpAny _ _ (field (.ref z) 2 >>= _) _ _ _
  refine wpAny_bind (wpAny_field hz rfl (x := .bool true) rfl ?_)
  show wpAny _ _ (field (.ref z) 3 >>= _) _ _ _
  refine wpAny_bind (wpAny_field hz rfl (x := .ref TI) rfl ?_)
  refine wpAny_bind (wpAny_seqItems hTI rfl ?_)
  show wpAny _ _ (Builtin.SmallTypes.ownedTupleIsFree (.ref z) >>= _) _ _ _
  refine wpAny_bind ?_
  unfold Builtin.SmallTypes.ownedTupleIsFree
  refine wpAny_bind (wpAny_field hz rfl (x := .none) rfl (wpAny_pure ?_))
  simp only [if_true]
  refine wpAny_bind (wpAny_rule ?_)
  refine wpAny_bind (wpAny_field hz rfl (x := .ref TO) rfl ?_)
  refine wpAny_bind (wpAny_setField_rec hz (by simp) fun g0 hz0 hs0 => ?_)
  replace hz0 : IsZipS g0 z TI TO .ellipsis := hz0
  replace hs0 : Heap.SameBut z hp g0 := hs0
  refine wpAny_bind ?_
  simp only [List.zipIdx_cons, List.zipIdx_nil, List.forIn_cons, List.forIn_nil]
  refine wpAny_bind (wpAny_bind (wpAny_onRaise ?_))
  show wpAny _ _ (Builtin.SmallTypes.nextOrEnd (.ref i1)) _ _ ⟨g0, g, d, tk0, os⟩
  refine noe_end D1 (D1.over st1 hs0 S.zf1) fun q hq => ?_
  replace hq : Heap.ExtBut i1 g0 q := hq
  have hzq : IsZipS q z TI TO .ellipsis := hq _ _ S.zi1 hz0
  refine wpAny_bind (wpAny_setField_rec (s := ⟨q, g, d, tk0, os⟩) hzq (by simp) fun q1 hz1 hq1 => ?_)
  replace hq1 : Heap.SameBut z q q1 := hq1
  refine wpAny_bind (zs_stop (s := ⟨q1, g, d, tk0, os⟩) (fun _ _ => rfl) hh D2 (D2.frame _ _ _ st2 fun b hb o e => ?_) fun h' e hk he => hE h' e (fun c o cz cT c1 c2 x => hk _ _ c2 (hq1.extBut _ _ cz (hq _ _ c1 (hs0.extBut _ _ cz x)))) he)
  exact hq1.extBut b o (fun x => S.zf2 (x ▸ hb)) (hq b o (fun x => S.sep1_2 (x ▸ hb)) (hs0.extBut b o (fun x => S.zf2 (x ▸ hb)) e))
end
/-! ### pyNext, the making -/
section
variable {prog : Program} {w : World} {A : Around} {E : Value → Shared → Prop} {s : Shared} {z TI TO i1 i2 : Addr} {fp1 fp2 : List Addr} {n1 n2 i : Nat} {P1 P2 : Nat → Value → Prop} {St1 St2 : Nat → Heap → Prop} {a1 a2 : Value}
theorem zs_next {Q : Option Value → Shared → Prop} (S : ZipSep2 z TI TO i1 i2 fp1 fp2) (D1 : Draws prog w A.in1 i1 fp1 n1 P1 St1) (D2 : Draws prog w A.in1 i2 fp2 n2 P2 St2)
    (hz : IsZipS s.heap z TI TO .none) (hTI : IsTupOf2 s.heap TI (.ref i1) (.ref i2)) (hTO : IsTupOf2 s.heap TO a1 a2) (st1 : St1 i s.heap) (st2 : St2 i s.heap) (hlt1 : i < n1) (hlt2 : i < n2)
    (hQ : ∀ x1 x2 h' tk, P1 i x1 → P2 i x2 → IsZipS h' z TI TO (rawInt s.heap.objs.size) → IsTupOf2 h' TO x1 x2 → St1 (i + 1) h' → St2 (i + 1) h' → IsTupOf2 h' s.heap.objs.size x1 x2 → h'.objs.size = s.heap.objs.size + 1 →
      (∀ c o, c ≠ z → c ≠ TO → c ≠ i1 → c ≠ i2 → s.heap.get? c = some o → h'.get? c = some o) → Q (some (.ref s.heap.objs.size)) { s with heap := h', toks := tk }) : wpAny (model prog w) A (pyNext (.ref z)) Q E s := by
  have hT : s.TypeIs (.ref z) "zip" := ⟨_, hz, rfl⟩
  unfold pyNext
  exact wpAny_bind (wpAny_attempt (wpAny_callSpecial?_slot (name := Str.ofString "__next__") hT PySem.F.slot_zip_next
    (wpAny_call_entry PySem.F.slot_zip_next hT PySem.F.entry_zip_next
      (zs_item S D1 D2 hz hTI hTO st1 st2 hlt1 hlt2 fun x1 x2 h' tk y1 y2 b1 b2 d1 d2 b5 b6 b7 => wpAny_pure (hQ x1 x2 h' tk y1 y2 b1 b2 d1 d2 b5 b6 b7)) (PySem.F.args_zip_next_1 _))))
theorem zs_done {Q : Option Value → Shared → Prop} (hh : A.in1.handled = none) (S : ZipSep2 z TI TO i1 i2 fp1 fp2) (D1 : Draws prog w A.in1 i1 fp1 n1 P1 St1) (D2 : Draws prog w A.in1 i2 fp2 n2 P2 St2)
    (hz : IsZipS s.heap z TI TO .none) (hTI : IsTupOf2 s.heap TI (.ref i1) (.ref i2)) (hTO : IsTupOf2 s.heap TO a1 a2) (st1 : St1 n1 s.heap) (st2 : St2 n2 s.heap)
    (hQ : ∀ h', (∀ c o, c ≠ z → c ≠ TO → c ≠ i1 → c ≠ i2 → s.heap.get? c = some o → h'.get? c = some o) → Q none { s with heap := h' }) : wpAny (model prog w) A (pyNext (.ref z)) Q E s := by
  have hT : s.TypeIs (.ref z) "zip" := ⟨_, hz, rfl⟩
  unfold pyNext
  refine wpAny_bind (wpAny_attempt (wpAny_callSpecial?_slot (name := Str.ofString "__next__") hT PySem.F.slot_zip_next
    (wpAny_call_entry PySem.F.slot_zip_next hT PySem.F.entry_zip_next (zs_end hh S D1 D2 hz hTI hTO st1 st2 fun h' e hk he => ?_) (PySem.F.args_zip_next_1 _))))
  obtain ⟨o, ho, hc⟩ := he
  exact wpAny_bind (wpAny_isInstance (T := "StopIteration") (b := true) ⟨o, ho, hc⟩ isSubtype_stop (wpAny_pure (hQ _ hk)))
theorem zs_go {elts : List Expr} {x1} {pos : Pos} {T : Addr} {Q : Unit → Shared → Prop} (hz : IsZipS s.heap z TI TO (rawInt T))
    (hQ : ∀ h', IsZipS h' z TI TO .none → Heap.SameBut z s.heap h' → Q () { s with heap := h' }) : wpAny (model prog w) A (letOwnedTupleGo (.Tuple elts x1 pos) (.ref z) (.ref T)) Q E s := by
  unfold letOwnedTupleGo
  refine wpAny_bind (wpAny_load hz ?_)
  show wpAny _ _ (if (["enumerate", "zip", "dict_itemiterator", "dict_reverseitemiterator", "odict_iterator", "itertools.zip_longest", "itertools.pairwise"].contains "zip" &&
      (#[rawInt T, .bool false, .bool true, .ref TI, .ref TO] : Array Value)[0]? == some (rawInt T)) = true then _ else _) Q E s
  rw [if_pos (by simp)]
  refine wpAny_bind (wpAny_rule ?_)
  show wpAny _ _ (setField (.ref z) 0 .none) Q E s
  exact wpAny_setField_rec hz (by simp) fun h' hz' hs' => hQ h' hz' hs'
theorem zs_iter {f0 : Value} {Q : Value → Shared → Prop} (hz : IsZipS s.heap z TI TO f0) (h : Q (.ref z) s) : wpAny (model prog w) A (pyIter (.ref z)) Q E s := by
  have hT : s.TypeIs (.ref z) "zip" := ⟨_, hz, rfl⟩
  refine wpAny_pyIter_slot hT PySem.F.slot_zip_iter (wpAny_call_entry PySem.F.slot_zip_iter hT PySem.F.entry_zip_iter ?_ (PySem.F.args_zip_iter_1 _))
  show wpAny _ _ (ret (.ref z)) _ _ s
  exact wpAny_pure ⟨_, rfl, "zip", _, hT, PySem.F.slot_zip_next.lookup, h⟩
end
theorem zs_typeCall (a b c : Value) : checkTypeCall "zip" ⟨[a, b], [(Str.ofString "strict", c)]⟩ = pure () := by kernel_rfl
theorem zs_newCall (a b c : Value) : checkBuiltinCall "zip.__new__" ⟨[.type "zip", a, b], [(Str.ofString "strict", c)]⟩ = pure () := by kernel_rfl
theorem zs_initArgs (obj a b c : Value) : argsOk "object.__init__" ⟨[obj, a, b], [(Str.ofString "strict", c)]⟩ := by unfold argsOk; kernel_rfl
abbrev zsZ (h : Heap) (o1 o2 : Obj) : Heap := (gzO2 h o1 o2).push { cls := .type "zip", data := .fields #[.none, .bool false, .bool true, .ref ((h.push o1).push o2).objs.size, .ref (gzT2 h o1 o2).objs.size] }
theorem meets_zs {v1 v2 : Value} {o1 o2 : Obj} {H1 H2 : Heap → Prop} (B1 : Begins v1 o1 H1) (B2 : Begins v2 o2 H2) :
    Meets (Builtin.«zip.__new__» ⟨[.type "zip", v1, v2], [(Str.ofString "strict", .bool true)]⟩) (fun _ R s => (H1 s.heap ∧ H2 s.heap) ∧
      R (.ok (.ret (.ref (gzO2 s.heap o1 o2).objs.size))) { s with heap := zsZ s.heap o1 o2 }) :=
  .of_wp fun prog w A R s h => by
    obtain ⟨hp, g, d, tk, os⟩ := s; obtain ⟨⟨h1, h2⟩, h⟩ := h
    have hsub := sub_zip
    have q1 : ∀ {A' : Around} {E : Value → Shared → Prop} {Q : Value → Shared → Prop}, Q (.ref hp.objs.size) ⟨(hp.push o1), g, d, tk, os⟩ → wpAny (model prog w) A' (pyIter v1) Q E ⟨hp, g, d, tk, os⟩ :=
      fun q => B1.iter prog w _ _ ⟨hp, g, d, tk, os⟩ _ (B1.keeps _ _ h1 fun b o' e => e) q
    have q2 : ∀ {A' : Around} {E : Value → Shared → Prop} {Q : Value → Shared → Prop}, Q (.ref (hp.push o1).objs.size) ⟨((hp.push o1).push o2), g, d, tk, os⟩ → wpAny (model prog w) A' (pyIter v2) Q E ⟨(hp.push o1), g, d, tk, os⟩ :=
      fun q => B2.iter prog w _ _ ⟨(hp.push o1), g, d, tk, os⟩ _ (B2.keeps _ _ h2 fun b o' e => (Heap.get?_push_of_some _ e)) q
    have e1 : (Str.ofString "strict" == ("strict" : Str)) = true := by decide +kernel
    have e2 : (Str.ofString "strict" != ("strict" : Str)) = false := by decide +kernel
    wp_walk using q1, q2
    exact ⟨_, rfl, h⟩
section
variable {prog : Program} {w : World} {A : Around} {E : Value → Shared → Prop} {s : Shared}
theorem zs_begins {v1 v2 : Value} {o1 o2 : Obj} {H1 H2 : Heap → Prop} {Q : Value → Shared → Prop} (B1 : Begins v1 o1 H1) (B2 : Begins v2 o2 H2) (h1 : H1 s.heap) (h2 : H2 s.heap)
    (h : ∀ h', IsZipS h' (s.heap.objs.size + 4) (s.heap.objs.size + 2) (s.heap.objs.size + 3) .none → IsTupOf2 h' (s.heap.objs.size + 2) (.ref s.heap.objs.size) (.ref (s.heap.objs.size + 1)) →
      IsTupOf2 h' (s.heap.objs.size + 3) .none .none → h'.get? s.heap.objs.size = some o1 → h'.get? (s.heap.objs.size + 1) = some o2 → h'.objs.size = s.heap.objs.size + 5 →
      (∀ c o, s.heap.get? c = some o → h'.get? c = some o) → Q (.ref (s.heap.objs.size + 4)) { s with heap := h' }) :
    wpAny (model prog w) A (call (.type "zip") [v1, v2] [(Str.ofString "strict", .bool true)]) Q E s := by
  refine callType_newKw PySem.F.called_zip (by decide) (zs_typeCall _ _ _) (zs_newCall _ _ _) (fun obj => zs_initArgs obj _ _ _) PySem.F.entry_zip_new (meets_zs B1 B2) ⟨⟨h1, h2⟩, ?_⟩
  have z1 : (s.heap.push o1).objs.size = s.heap.objs.size + 1 := by rw [Heap.size_push]
  have z2 : ((s.heap.push o1).push o2).objs.size = s.heap.objs.size + 2 := by rw [Heap.size_push, z1]
  have zT : (gzT2 s.heap o1 o2).objs.size = s.heap.objs.size + 3 := by rw [Heap.size_push, z2]
  have zO : (gzO2 s.heap o1 o2).objs.size = s.heap.objs.size + 4 := by rw [Heap.size_push, zT]
  have zZ : (zsZ s.heap o1 o2).objs.size = s.heap.objs.size + 5 := by rw [Heap.size_push, zO]
  have gZ : (zsZ s.heap o1 o2).get? (gzO2 s.heap o1 o2).objs.size = some { cls := .type "zip", data := .fields #[.none, .bool false, .bool true, .ref ((s.heap.push o1).push o2).objs.size, .ref (gzT2 s.heap o1 o2).objs.size] } := Heap.get?_push_size _ rfl
  have gO : (zsZ s.heap o1 o2).get? (gzT2 s.heap o1 o2).objs.size = some { cls := .type "tuple", data := .seq #[.none, .none] } := Heap.get?_push_of_some _ (Heap.get?_push_size _ rfl)
  have gT : (zsZ s.heap o1 o2).get? ((s.heap.push o1).push o2).objs.size = some { cls := .type "tuple", data := .seq #[.ref s.heap.objs.size, .ref (s.heap.push o1).objs.size] } := Heap.get?_push_of_some _ (Heap.get?_push_of_some _ (Heap.get?_push_size _ rfl))
  have g1 : (zsZ s.heap o1 o2).get? s.heap.objs.size = some o1 := Heap.get?_push_of_some _ (Heap.get?_push_of_some _ (Heap.get?_push_of_some _ (Heap.get?_push_of_some _ (Heap.get?_push_size _ B1.free))))
  have g2 : (zsZ s.heap o1 o2).get? (s.heap.push o1).objs.size = some o2 := Heap.get?_push_of_some _ (Heap.get?_push_of_some _ (Heap.get?_push_of_some _ (Heap.get?_push_size _ B2.free)))
  rw [zO, zT, z2] at gZ
  rw [zT] at gO
  rw [z2, z1] at gT
  rw [z1] at g2
  show _ ∧ _
  rw [zO]
  exact ⟨⟨_, gZ, rfl⟩, h _ gZ gT gO g1 g2 zZ fun c o e => Heap.get?_push_of_some _ (Heap.get?_push_of_some _ (Heap.get?_push_of_some _ (Heap.get?_push_of_some _ (Heap.get?_push_of_some _ e))))⟩
end
end K72

set_option Elab.async false
set_option linter.all false
set_option maxRecDepth 100000
set_option maxHeartbeats 4000000
/-! the walks as rules: pi_zipS (two lists), pi_zipX (a text and a list), pi_enumS -/
namespace K72
open PySem PySem.Spec PyProof.Rows L2
/-- two lists of one length, walked together to their ends -/
def ItzS (K : PySem.W.Frag) (a b : Addr) : It :=
  ⟨fun i H => ∃ (xs ys : List V) (x y : V), SqL K H a xs ∧ SqL K H b ys ∧ xs[i]? = some x ∧ ys[i]? = some y,
    fun i H v H' => ∃ T x y, v = .ref T ∧ H T = none ∧ H' = upd H T (.tup [x, y]) ∧ (∀ xs, SqL K H a xs → xs[i]? = some x) ∧ ∀ ys, SqL K H b ys → ys[i]? = some y,
    fun i H => ∃ xs ys : List V, SqL K H a xs ∧ SqL K H b ys ∧ xs.length = i ∧ ys.length = i⟩
/-- a text and a list -/
def ItzX (K : PySem.W.Frag) (z : Str) (b : Addr) : It :=
  ⟨fun i H => ∃ (ys : List V) (y : V) (c : Nat), SqL K H b ys ∧ z.cps[i]? = some c ∧ ys[i]? = some y,
    fun i H v H' => ∃ T y c, v = .ref T ∧ H T = none ∧ H' = upd H T (.tup [.str ⟨#[c]⟩, y]) ∧ z.cps[i]? = some c ∧ ∀ ys, SqL K H b ys → ys[i]? = some y,
    fun i H => ∃ ys : List V, SqL K H b ys ∧ z.cps.size = i ∧ ys.length = i⟩
/-- enumerate(.., start=k) -/
def IteS (K : PySem.W.Frag) (a : Addr) (k : Int) : It :=
  ⟨fun i H => ∃ (xs : List V) (x : V), SqL K H a xs ∧ xs[i]? = some x, fun i H v H' => ∃ T x, v = .ref T ∧ H T = none ∧ H' = upd H T (.tup [.int (k + (i : Nat)), x]) ∧ ∀ xs, SqL K H a xs → xs[i]? = some x, fun i H => ∃ xs : List V, SqL K H a xs ∧ xs.length = i⟩
section
variable {P : Program} {w : World} {K : PySem.W.Frag} {elts : List Expr} {kk : Nat} {tpos : Pos}
theorem five {z TI TO i1 i2 c : Addr} (h : c ∈ [z, TI, TO, i1, i2]) : c = z ∨ c = TI ∨ c = TO ∨ c = i1 ∨ c = i2 := by simpa using h
theorem turn_zipS {a b z TI TO i1 i2 : Addr} (S : ZipSep2 z TI TO i1 i2 [i1, a] [i2, b]) (ha : a ≠ i1) (hb : b ≠ i2) :
    Turn P w K (.Tuple elts kk tpos) (ItzS K a b) [z, TI, TO, i1, i2] z (fun i h => IsZipS h z TI TO .none ∧ IsTupOf2 h TI (.ref i1) (.ref i2) ∧ (∃ x y, IsTupOf2 h TO x y) ∧ h.IsListIter i1 a i ∧ h.IsListIter i2 b i) where
  mem := by simp
  obj := fun i h st c hc => by
    obtain ⟨hz, hTI, ⟨x, y, hTO⟩, ⟨o1, e1, _, d1⟩, ⟨o2, e2, _, d2⟩⟩ := st
    rcases five hc with q | q | q | q | q
    · rw [q]; exact ⟨_, hz, fun v q => nomatch q⟩
    · rw [q]; exact ⟨_, hTI, fun v q => nomatch q⟩
    · rw [q]; exact ⟨_, hTO, fun v q => nomatch q⟩
    · rw [q]; exact ⟨o1, e1, fun v q => by rw [d1] at q; cases q⟩
    · rw [q]; exact ⟨o2, e2, fun v q => by rw [d2] at q; cases q⟩
  keep := fun i h h' st k => by
    obtain ⟨hz, hTI, ⟨x, y, hTO⟩, h1, h2⟩ := st
    exact ⟨k z (by simp) _ hz, k TI (by simp) _ hTI, ⟨x, y, k TO (by simp) _ hTO⟩, h1.at fun o q => k i1 (by simp) o q, h2.at fun o q => k i2 (by simp) o q⟩
  item := by
    intro X hP hw hK hc i pins s σ H E I hf st hg
    subst hP hw hK
    obtain ⟨hz, hTI, ⟨x0, y0, hTO⟩, h1, h2⟩ := st
    obtain ⟨xs, ys, x, y, hqx, hqy, hx, hy⟩ := hg
    obtain ⟨its, rv, p, _⟩ := I.list hqx
    obtain ⟨its2, rv2, p2, _⟩ := I.list hqy
    obtain ⟨u, hu, ru⟩ := rv.get hx
    obtain ⟨u2, hu2, ru2⟩ := rv2.get hy
    have hzl : z < s.heap.objs.size := Heap.lt_size hz
    have hd : X.A.in1.handled = none := I.ok.hd hc
    refine zs_next S (Draws.list hd i1 a ha its.toArray) (Draws.list hd i2 b hb its2.toArray) hz hTI hTO ⟨h1, p.isList⟩ ⟨h2, p2.isList⟩ (by simpa using (List.getElem?_eq_some_iff.mp hu).1) (by simpa using (List.getElem?_eq_some_iff.mp hu2).1)
      fun x1 x2 h' tk e1 e2 z' TO' h1' h2' hT hsz hk => ?_
    have e1' : x1 = u := by
      have q : its.toArray[i]? = some x1 := e1
      rw [show its.toArray[i]? = its[i]? by simp, hu] at q
      exact (Option.some.inj q).symm
    have e2' : x2 = u2 := by
      have q : its2.toArray[i]? = some x2 := e2
      rw [show its2.toArray[i]? = its2[i]? by simp, hu2] at q
      exact (Option.some.inj q).symm
    subst e1' e2'
    refine ⟨_, rfl, zs_go (s := { s with heap := h', toks := tk }) z' fun h'' z'' sb => ?_⟩
    have hT2 : h''.get? s.heap.objs.size = some { cls := .type "tuple", data := .seq #[x1, x2] } := (sb.2 _ (Nat.ne_of_gt hzl)).trans hT
    have new : ObjOk X.prog X.w (upd H s.heap.objs.size (.tup [x, y])) h'' s.heap.objs.size (.tup [x, y]) :=
      ⟨by show 2 ≤ sizeLine; decide, [x1, x2], .cons ru (.cons ru2 .nil), ⟨_, hT2, rfl, _, rfl⟩⟩
    have I1 : Inv X pins σ (upd H s.heap.objs.size (.tup [x, y])) { s with heap := h'', toks := tk } :=
      I.turnedNew (t' := tk) (ch := [z, TI, TO, i1, i2]) (fun c o hb q => (sb.2 c (fun q' => hb (by simp [q']))).trans (hk c o (fun q' => hb (by simp [q'])) (fun q' => hb (by simp [q'])) (fun q' => hb (by simp [q'])) (fun q' => hb (by simp [q'])) q)) hf (Nat.le_refl _) new
    refine ⟨.ref s.heap.objs.size, _, I1, rfl, ⟨_, x, y, rfl, I.hok.fresh (Nat.le_refl _), rfl, fun l hl => by rw [I.list_inj hl hqx]; exact hx, fun l hl => by rw [I.list_inj hl hqy]; exact hy⟩, ⟨z'', ?_, ⟨x1, x2, ?_⟩, ?_, ?_⟩, fun c hcm => ?_⟩
    · exact (sb.2 _ S.TIz).trans (hk _ _ S.TIz S.TITO S.TIi1 S.TIi2 hTI)
    · exact (sb.2 _ S.TOz).trans TO'
    · exact h1'.1.at fun o q => (sb.2 _ S.zi1.symm).trans q
    · exact h2'.1.at fun o q => (sb.2 _ S.zi2.symm).trans q
    · have hlt : c < s.heap.objs.size := by
        rcases five hcm with q | q | q | q | q
        · rw [q]; exact hzl
        · rw [q]; exact Heap.lt_size hTI
        · rw [q]; exact Heap.lt_size hTO
        · rw [q]; obtain ⟨_, e1, _⟩ := h1; exact Heap.lt_size e1
        · rw [q]; obtain ⟨_, e2, _⟩ := h2; exact Heap.lt_size e2
      rw [upd_ne (Nat.ne_of_lt hlt)]
      exact (hf c hcm).1
  done := by
    intro X hP hw hK hc i pins s σ H E I hf st hg
    subst hP hw hK
    obtain ⟨hz, hTI, ⟨x0, y0, hTO⟩, h1, h2⟩ := st
    obtain ⟨xs, ys, hqx, hqy, hx, hy⟩ := hg
    obtain ⟨its, rv, p, _⟩ := I.list hqx
    obtain ⟨its2, rv2, p2, _⟩ := I.list hqy
    have l1 : its.toArray.size = i := by rw [List.size_toArray, ← rv.length]; exact hx
    have l2 : its2.toArray.size = i := by rw [List.size_toArray, ← rv2.length]; exact hy
    have hd : X.A.in1.handled = none := I.ok.hd hc
    exact zs_done hd S (Draws.list hd i1 a ha its.toArray) (Draws.list hd i2 b hb its2.toArray) hz hTI hTO ⟨by rw [l1]; exact h1, p.isList⟩ ⟨by rw [l2]; exact h2, p2.isList⟩ fun h' hk => ⟨rfl, I.turnedL (t' := s.toks) (ch := [z, TI, TO, i1, i2]) (fun c o hb q =>
      hk c o (fun q' => hb (by simp [q'])) (fun q' => hb (by simp [q'])) (fun q' => hb (by simp [q'])) (fun q' => hb (by simp [q'])) q) hf⟩
  self := fun A i s Q E st h => zs_iter st.1 h
theorem turn_zipX {x : Str} {t : Tok} {b z TI TO i1 i2 : Addr} (S : ZipSep2 z TI TO i1 i2 [i1] [i2, b]) (hb : b ≠ i2) :
    Turn P w K (.Tuple elts kk tpos) (ItzX K x b) [z, TI, TO, i1, i2] z (fun i h => IsZipS h z TI TO .none ∧ IsTupOf2 h TI (.ref i1) (.ref i2) ∧ (∃ x y, IsTupOf2 h TO x y) ∧ h.IsStrIter i1 (strIterType x) x t i ∧ h.IsListIter i2 b i) where
  mem := by simp
  obj := fun i h st c hc => by
    obtain ⟨hz, hTI, ⟨x, y, hTO⟩, ⟨o1, e1, _, d1⟩, ⟨o2, e2, _, d2⟩⟩ := st
    rcases five hc with q | q | q | q | q
    · rw [q]; exact ⟨_, hz, fun v q => nomatch q⟩
    · rw [q]; exact ⟨_, hTI, fun v q => nomatch q⟩
    · rw [q]; exact ⟨_, hTO, fun v q => nomatch q⟩
    · rw [q]; exact ⟨o1, e1, fun v q => by rw [d1] at q; cases q⟩
    · rw [q]; exact ⟨o2, e2, fun v q => by rw [d2] at q; cases q⟩
  keep := fun i h h' st k => by
    obtain ⟨hz, hTI, ⟨x, y, hTO⟩, ⟨o1, e1, r1⟩, h2⟩ := st
    exact ⟨k z (by simp) _ hz, k TI (by simp) _ hTI, ⟨x, y, k TO (by simp) _ hTO⟩, ⟨o1, k i1 (by simp) _ e1, r1⟩, h2.at fun o q => k i2 (by simp) o q⟩
  item := by
    intro X hP hw hK hc i pins s σ H E I hf st hg
    subst hP hw hK
    obtain ⟨hz, hTI, ⟨x0, y0, hTO⟩, h1, h2⟩ := st
    obtain ⟨ys, y, cc, hqy, hx, hy⟩ := hg
    obtain ⟨its2, rv2, p2, _⟩ := I.list hqy
    obtain ⟨u2, hu2, ru2⟩ := rv2.get hy
    have hzl : z < s.heap.objs.size := Heap.lt_size hz
    have hd : X.A.in1.handled = none := I.ok.hd hc
    have hxl : i < x.cps.size := (Array.getElem?_eq_some_iff.mp hx).1
    refine zs_next S (Draws.text hd i1 x t) (Draws.list hd i2 b hb its2.toArray) hz hTI hTO h1 ⟨h2, p2.isList⟩ hxl (by simpa using (List.getElem?_eq_some_iff.mp hu2).1)
      fun x1 x2 h' tk e1 e2 z' TO' h1' h2' hT hsz hk => ?_
    obtain ⟨c1, t1, e1a, e1b⟩ := e1
    rw [hx] at e1a
    cases e1a
    subst e1b
    have e2' : x2 = u2 := by
      have q : its2.toArray[i]? = some x2 := e2
      rw [show its2.toArray[i]? = its2[i]? by simp, hu2] at q
      exact (Option.some.inj q).symm
    subst e2'
    refine ⟨_, rfl, zs_go (s := { s with heap := h', toks := tk }) z' fun h'' z'' sb => ?_⟩
    have hT2 : h''.get? s.heap.objs.size = some { cls := .type "tuple", data := .seq #[.str ⟨#[cc]⟩ t1, x2] } := (sb.2 _ (Nat.ne_of_gt hzl)).trans hT
    have new : ObjOk X.prog X.w (upd H s.heap.objs.size (.tup [.str ⟨#[cc]⟩, y])) h'' s.heap.objs.size (.tup [.str ⟨#[cc]⟩, y]) :=
      ⟨by show 2 ≤ sizeLine; decide, [.str ⟨#[cc]⟩ t1, x2], .cons ⟨t1, rfl⟩ (.cons ru2 .nil), ⟨_, hT2, rfl, _, rfl⟩⟩
    have I1 : Inv X pins σ (upd H s.heap.objs.size (.tup [.str ⟨#[cc]⟩, y])) { s with heap := h'', toks := tk } :=
      I.turnedNew (t' := tk) (ch := [z, TI, TO, i1, i2]) (fun c o hb q => (sb.2 c (fun q' => hb (by simp [q']))).trans (hk c o (fun q' => hb (by simp [q'])) (fun q' => hb (by simp [q'])) (fun q' => hb (by simp [q'])) (fun q' => hb (by simp [q'])) q)) hf (Nat.le_refl _) new
    refine ⟨.ref s.heap.objs.size, _, I1, rfl, ⟨_, y, cc, rfl, I.hok.fresh (Nat.le_refl _), rfl, hx, fun l hl => by rw [I.list_inj hl hqy]; exact hy⟩, ⟨z'', ?_, ⟨.str ⟨#[cc]⟩ t1, x2, ?_⟩, ?_, ?_⟩, fun c hcm => ?_⟩
    · exact (sb.2 _ S.TIz).trans (hk _ _ S.TIz S.TITO S.TIi1 S.TIi2 hTI)
    · exact (sb.2 _ S.TOz).trans TO'
    · obtain ⟨o1, e1, r1⟩ := h1'
      exact ⟨o1, (sb.2 _ S.zi1.symm).trans e1, r1⟩
    · exact h2'.1.at fun o q => (sb.2 _ S.zi2.symm).trans q
    · have hlt : c < s.heap.objs.size := by
        rcases five hcm with q | q | q | q | q
        · rw [q]; exact hzl
        · rw [q]; exact Heap.lt_size hTI
        · rw [q]; exact Heap.lt_size hTO
        · rw [q]; obtain ⟨_, e1, _⟩ := h1; exact Heap.lt_size e1
        · rw [q]; obtain ⟨_, e2, _⟩ := h2; exact Heap.lt_size e2
      rw [upd_ne (Nat.ne_of_lt hlt)]
      exact (hf c hcm).1
  done := by
    intro X hP hw hK hc i pins s σ H E I hf st hg
    subst hP hw hK
    obtain ⟨hz, hTI, ⟨x0, y0, hTO⟩, h1, h2⟩ := st
    obtain ⟨ys, hqy, hx, hy⟩ := hg
    obtain ⟨its2, rv2, p2, _⟩ := I.list hqy
    have l2 : its2.toArray.size = i := by rw [List.size_toArray, ← rv2.length]; exact hy
    have hd : X.A.in1.handled = none := I.ok.hd hc
    exact zs_done hd S (Draws.text hd i1 x t) (Draws.list hd i2 b hb its2.toArray) hz hTI hTO (by rw [hx]; exact h1) ⟨by rw [l2]; exact h2, p2.isList⟩ fun h' hk => ⟨rfl, I.turnedL (t' := s.toks) (ch := [z, TI, TO, i1, i2]) (fun c o hb q =>
      hk c o (fun q' => hb (by simp [q'])) (fun q' => hb (by simp [q'])) (fun q' => hb (by simp [q'])) (fun q' => hb (by simp [q'])) q) hf⟩
  self := fun A i s Q E st h => zs_iter st.1 h
theorem turn_enumS {a e it : Addr} {k : Int} (ha : a ≠ it) (hei : e ≠ it) (hea : e ≠ a) :
    Turn P w K (.Tuple elts kk tpos) (IteS K a k) [e, it] e (fun i h => (∃ old, IsEnum h e it (k + ((i : Nat) : Int)) old) ∧ h.IsListIter it a i) where
  mem := by simp
  obj := fun i h st b hb => by
    obtain ⟨⟨old, he⟩, ⟨o, ho, hc, hd⟩⟩ := st
    have e' : b = e ∨ b = it := by simpa using hb
    rcases e' with z | z
    · rw [z]; exact ⟨_, he, fun v q => nomatch q⟩
    · rw [z]; exact ⟨o, ho, fun v q => by rw [hd] at q; cases q⟩
  keep := fun i h h' st k => let ⟨⟨old, he⟩, hi⟩ := st; ⟨⟨old, k e (by simp) _ he⟩, hi.at fun o q => k it (by simp) o q⟩
  item := by
    intro X hP hw hK hc i pins s σ H E I hf st hg
    subst hP hw hK
    obtain ⟨⟨old, he⟩, hit⟩ := st
    obtain ⟨xs, x, hq, hx⟩ := hg
    obtain ⟨its, rv, p, hz⟩ := I.list hq
    obtain ⟨u, hu, ru⟩ := rv.get hx
    have hel : e < s.heap.objs.size := Heap.lt_size he
    have hil : it < s.heap.objs.size := by obtain ⟨_, q, _⟩ := hit; exact Heap.lt_size q
    have hd : X.A.in1.handled = none := I.ok.hd hc
    refine wpAny_pyNext_enum_itemC (Draws.list hd it a ha its.toArray) he ⟨hit, p.isList⟩ (by simpa using (List.getElem?_eq_some_iff.mp hu).1) hei (by simp [hei, hea]) fun x1 h' tk e1 ho hit' hT hsz hk => ?_
    have e1' : x1 = u := by
      have q : its.toArray[i]? = some x1 := e1
      rw [show its.toArray[i]? = its[i]? by simp, hu] at q
      exact (Option.some.inj q).symm
    subst e1'
    refine ⟨_, rfl, wpAny_letOwnedTupleGo_enum (s := { s with heap := h', toks := tk + 1 }) ho fun h'' he' sb => ?_⟩
    have hT2 : h''.get? s.heap.objs.size = some { cls := .type "tuple", data := .seq #[.int (k + (i : Nat)) tk, x1] } := (sb.2 _ (Nat.ne_of_gt hel)).trans hT
    have new : ObjOk X.prog X.w (upd H s.heap.objs.size (.tup [.int (k + (i : Nat)), x])) h'' s.heap.objs.size (.tup [.int (k + (i : Nat)), x]) :=
      ⟨by show 2 ≤ sizeLine; decide, [.int (k + (i : Nat)) tk, x1], .cons ⟨_, rfl⟩ (.cons ru .nil), ⟨_, hT2, rfl, _, rfl⟩⟩
    have I1 : Inv X pins σ (upd H s.heap.objs.size (.tup [.int (k + (i : Nat)), x])) { s with heap := h'', toks := tk + 1 } :=
      I.turnedNew (ch := [e, it]) (fun b ob hb q => (sb.2 b (fun z => hb (by simp [z]))).trans (hk b ob (fun z => hb (by simp [z])) (fun z => hb (by simp [z])) q)) hf (Nat.le_refl _) new
    refine ⟨.ref s.heap.objs.size, _, I1, rfl, ⟨_, x, rfl, I.hok.fresh (Nat.le_refl _), rfl, fun ys hy => by rw [I.list_inj hy hq]; exact hx⟩, ⟨⟨x1, ?_⟩, hit'.1.at fun o q => (sb.2 it (Ne.symm hei)).trans q⟩, fun b hb => ?_⟩
    · have e1 : k + ((i + 1 : Nat) : Int) = k + (i : Int) + 1 := by omega
      rw [e1]; exact he'
    · have hb' : b < s.heap.objs.size := by
        have e' : b = e ∨ b = it := by simpa using hb
        rcases e' with z | z
        · rw [z]; exact hel
        · rw [z]; exact hil
      rw [upd_ne (Nat.ne_of_lt hb')]
      exact (hf b hb).1
  done := by
    intro X hP hw hK hc i pins s σ H E I hf st hg
    subst hP hw hK
    obtain ⟨⟨old, he⟩, hit⟩ := st
    obtain ⟨xs, hq, hx⟩ := hg
    obtain ⟨its, rv, p, hz⟩ := I.list hq
    obtain ⟨f0, f1, f2, f3, f4, f5⟩ := hf it (by simp)
    have hl : its.toArray.size = i := by rw [List.size_toArray, ← rv.length]; exact hx
    have hd : X.A.in1.handled = none := I.ok.hd hc
    exact wpAny_pyNext_enum_endD (Draws.list hd it a ha its.toArray) he ⟨by rw [hl]; exact hit, p.isList⟩ fun h' eb => ⟨rfl, I.turned (t' := s.toks) (fun b o hb q => eb b o hb q) f0 f1 f3 f4 f5⟩
  self := fun A i s Q E st h => let ⟨⟨_, he⟩, _⟩ := st; wpAny_pyIter_enum he h
end
/-! ### the rules -/
def iZipS (K : PySem.W.Frag) (ta : TA) : TI := fun σ H R => ta σ H fun vs H1 => ∃ a b xs ys, vs = [.ref a, .ref b] ∧ SqL K H1 a xs ∧ SqL K H1 b ys ∧ R (ItzS K a b) H1
def iZipX (K : PySem.W.Frag) (ta : TA) : TI := fun σ H R => ta σ H fun vs H1 => ∃ z b ys, vs = [.str z, .ref b] ∧ SqL K H1 b ys ∧ R (ItzX K z b) H1
def iEnumS (K : PySem.W.Frag) (k : Int) (ta : TA) : TI := fun σ H R => ta σ H fun vs H1 => ∃ a xs, vs = [.ref a] ∧ SqL K H1 a xs ∧ R (IteS K a k) H1
theorem lt_new {N b : Nat} {l : List Addr} (h : b ∈ [N + 4, N + 2, N + 3, N, N + 1]) : N ≤ b := by
  simp only [List.mem_cons, List.not_mem_nil, or_false] at h
  omega
section
variable {X : Cx} {e e2 : Expr} {ta : TA} {p pos tpos : Pos} {elts : List Expr} {kk : Nat} {cj : Nat} {cp kp : Pos}
theorem pi_zipS (hg : Gl X "zip") (hm : X.mg "zip" = none) (ha : PA X [e, e2] ta)
    (hs : starEach [e, e2] X.env = (false, eval e X.env) :: starEach [e2] X.env := by rfl) (hpl : ((backTo pos (starEach [e, e2] X.env)).any (·.1) || (backToKw pos (keywordEach [⟨some "strict", .Constant (.bool true) cj cp, kp⟩] X.env)).any (·.1.isNone)) = false := by rfl) :
    PI X (.Tuple elts kk tpos) (.Call (.Name "zip" p) [e, e2] [⟨some "strict", .Constant (.bool true) cj cp, kp⟩] pos) (iZipS X.K ta) := by
  refine ⟨fun pins s σ H R I h => ?_⟩
  refine wpAny_Call_Name_kw (ld_blt I hg hm PyProof.Rows.boot_zip (callWith_tyK (thn (ha.run pos pins s σ H _ I h) fun us s1 ⟨vs, H1, I1, r1, q1⟩ => ?_) rfl hpl hs))
  have pk : PK X [⟨some "strict", .Constant (.bool true) cj cp, kp⟩] (tCons (tC (.bl true)) tNil) := pk_cons pe_bl pk_nil
  refine thn (pk.run pos pins s1 σ H1 (fun zs H2 => zs = [.bl true] ∧ H2 = H1) I1 ⟨rfl, rfl⟩) fun ws s2 ⟨zs, H2, I2, rz, e1, e2⟩ => ?_
  subst e1 e2
  obtain ⟨a, b, xs, ys, ex, hqx, hqy, q⟩ := q1
  subst ex
  cases r1 with
  | cons r rr =>
    cases rr with
    | cons r' rr =>
      cases rr
      cases r
      cases r'
      cases rz with
      | cons rt rz =>
        cases rz
        cases rt
        obtain ⟨its, rv, p1, _⟩ := I2.list hqx
        obtain ⟨its2, rv2, p2, _⟩ := I2.list hqy
        have la : a < s2.heap.objs.size := p1.lt
        have lb : b < s2.heap.objs.size := p2.lt
        show wpAny _ _ (call (.type "zip") [.ref a, .ref b] [(Str.ofString "strict", .bool true)]) _ _ _
        refine zs_begins (begins_list a its.toArray) (begins_list b its2.toArray) p1.isList p2.isList fun h' hz hTI hTO h1 h2 hsz hk => zs_iter hz ?_
        have I3 : Inv X pins σ H2 { s2 with heap := h' } := I2.kept (t' := s2.toks) hk
        refine ⟨s2.heap.objs.size + 4, [s2.heap.objs.size + 4, s2.heap.objs.size + 2, s2.heap.objs.size + 3, s2.heap.objs.size, s2.heap.objs.size + 1], _, _, H2, rfl, I3,
          turn_zipS (zip_sep2 (fp1 := [a]) (fp2 := [b]) (fun c hc => by rw [List.mem_singleton.mp hc]; exact la) (fun c hc => by rw [List.mem_singleton.mp hc]; exact lb)) (Nat.ne_of_lt la) (Nat.ne_of_lt (Nat.lt_succ_of_lt lb)),
          ⟨hz, hTI, ⟨_, _, hTO⟩, ⟨_, h1, rfl, rfl⟩, ⟨_, h2, rfl, rfl⟩⟩, fun c hcm => ?_, q⟩
        have hle : s2.heap.objs.size ≤ c := lt_new (l := []) hcm
        exact I2.fpOk hle (I2.hok.fresh hle)
theorem pi_zipX (hg : Gl X "zip") (hm : X.mg "zip" = none) (ha : PA X [e, e2] ta)
    (hs : starEach [e, e2] X.env = (false, eval e X.env) :: starEach [e2] X.env := by rfl) (hpl : ((backTo pos (starEach [e, e2] X.env)).any (·.1) || (backToKw pos (keywordEach [⟨some "strict", .Constant (.bool true) cj cp, kp⟩] X.env)).any (·.1.isNone)) = false := by rfl) :
    PI X (.Tuple elts kk tpos) (.Call (.Name "zip" p) [e, e2] [⟨some "strict", .Constant (.bool true) cj cp, kp⟩] pos) (iZipX X.K ta) := by
  refine ⟨fun pins s σ H R I h => ?_⟩
  refine wpAny_Call_Name_kw (ld_blt I hg hm PyProof.Rows.boot_zip (callWith_tyK (thn (ha.run pos pins s σ H _ I h) fun us s1 ⟨vs, H1, I1, r1, q1⟩ => ?_) rfl hpl hs))
  have pk : PK X [⟨some "strict", .Constant (.bool true) cj cp, kp⟩] (tCons (tC (.bl true)) tNil) := pk_cons pe_bl pk_nil
  refine thn (pk.run pos pins s1 σ H1 (fun zs H2 => zs = [.bl true] ∧ H2 = H1) I1 ⟨rfl, rfl⟩) fun ws s2 ⟨zs, H2, I2, rz, e1, e2⟩ => ?_
  subst e1 e2
  obtain ⟨z, b, ys, ex, hqy, q⟩ := q1
  subst ex
  cases r1 with
  | cons r rr =>
    cases rr with
    | cons r' rr =>
      cases rr
      obtain ⟨t, rfl⟩ := r
      cases r'
      cases rz with
      | cons rt rz =>
        cases rz
        cases rt
        obtain ⟨its2, rv2, p2, _⟩ := I2.list hqy
        have lb : b < s2.heap.objs.size := p2.lt
        show wpAny _ _ (call (.type "zip") [.str z t, .ref b] [(Str.ofString "strict", .bool true)]) _ _ _
        refine zs_begins (begins_text z t) (begins_list b its2.toArray) trivial p2.isList fun h' hz hTI hTO h1 h2 hsz hk => zs_iter hz ?_
        have I3 : Inv X pins σ H2 { s2 with heap := h' } := I2.kept (t' := s2.toks) hk
        refine ⟨s2.heap.objs.size + 4, [s2.heap.objs.size + 4, s2.heap.objs.size + 2, s2.heap.objs.size + 3, s2.heap.objs.size, s2.heap.objs.size + 1], _, _, H2, rfl, I3,
          turn_zipX (x := z) (t := t) (zip_sep2 (fp1 := []) (fp2 := [b]) (fun c hc => nomatch hc) (fun c hc => by rw [List.mem_singleton.mp hc]; exact lb)) (Nat.ne_of_lt (Nat.lt_succ_of_lt lb)),
          ⟨hz, hTI, ⟨_, _, hTO⟩, ⟨_, h1, rfl, rfl⟩, ⟨_, h2, rfl, rfl⟩⟩, fun c hcm => ?_, q⟩
        have hle : s2.heap.objs.size ≤ c := lt_new (l := []) hcm
        exact I2.fpOk hle (I2.hok.fresh hle)
theorem pi_enumS {k : Int} (hk1 : -(2 ^ 63) ≤ k) (hk2 : k < 2 ^ 63) (hg : Gl X "enumerate") (hm : X.mg "enumerate" = none) (ha : PA X [e] ta)
    (hs : starEach [e] X.env = (false, eval e X.env) :: starEach [] X.env := by rfl) (hpl : ((backTo pos (starEach [e] X.env)).any (·.1) || (backToKw pos (keywordEach [⟨some "start", .Constant (.int k) cj cp, kp⟩] X.env)).any (·.1.isNone)) = false := by rfl) :
    PI X (.Tuple elts kk tpos) (.Call (.Name "enumerate" p) [e] [⟨some "start", .Constant (.int k) cj cp, kp⟩] pos) (iEnumS X.K k ta) := by
  refine ⟨fun pins s σ H R I h => ?_⟩
  refine wpAny_Call_Name_kw (ld_blt I hg hm PyProof.Rows.boot_enumerate (callWith_tyK (thn (ha.run pos pins s σ H _ I h) fun us s1 ⟨vs, H1, I1, r1, q1⟩ => ?_) rfl hpl hs))
  have pk : PK X [⟨some "start", .Constant (.int k) cj cp, kp⟩] (tCons (tC (.int k)) tNil) := pk_cons pe_int pk_nil
  refine thn (pk.run pos pins s1 σ H1 (fun zs H2 => zs = [.int k] ∧ H2 = H1) I1 ⟨rfl, rfl⟩) fun ws s2 ⟨zs, H2, I2, rz, e1, e2⟩ => ?_
  subst e1 e2
  obtain ⟨a, xs, ex, hq, q⟩ := q1
  subst ex
  cases r1 with
  | cons r rr =>
    cases rr
    cases r
    cases rz with
    | cons rt rz =>
      cases rz
      obtain ⟨t, rfl⟩ := rt
      obtain ⟨its, rv, p1, _⟩ := I2.list hq
      have la : a < s2.heap.objs.size := p1.lt
      show wpAny _ _ (call (.type "enumerate") [.ref a] [(Str.ofString "start", .int k t)]) _ _ _
      refine enum_begins_start (begins_list a its.toArray) p1.isList hk1 hk2 fun h' he hit hsz hk => wpAny_pyIter_enum he ?_
      have I3 : Inv X pins σ H2 { s2 with heap := h' } := I2.kept (t' := s2.toks) hk
      refine ⟨s2.heap.objs.size + 1, [s2.heap.objs.size + 1, s2.heap.objs.size], _, _, H2, rfl, I3, turn_enumS (Nat.ne_of_lt la) (Nat.succ_ne_self _) (Nat.ne_of_gt (Nat.lt_succ_of_lt la)), ⟨⟨.none, ?_⟩, ⟨_, hit, rfl, rfl⟩⟩, fun b hb => ?_, q⟩
      · have e0 : k + ((0 : Nat) : Int) = k := by omega
        rw [e0]
        exact he
      · have e' : b = s2.heap.objs.size + 1 ∨ b = s2.heap.objs.size := by simpa using hb
        have hle : s2.heap.objs.size ≤ b := by
          rcases e' with z | z
          · rw [z]; exact Nat.le_add_right _ _
          · rw [z]; exact Nat.le_refl _
        exact I2.fpOk hle (I2.hok.fresh hle)
end
/-! ### as Walk -/
section
variable {K : PySem.W.Frag} {a b : Addr} {xs ys : List V}
theorem walk_zipS (hl : xs.length = ys.length) : Walk (ItzS K a b) xs.length (fun H => SqL K H a xs ∧ SqL K H b ys) (YPair (fun i => xs[i]?) (fun i => ys[i]?)) where
  goes := fun i H hi g => ⟨xs, ys, xs[i], ys[i]'(by omega), g.1, g.2, List.getElem?_eq_getElem hi, List.getElem?_eq_getElem (by omega)⟩
  stops := fun H g => ⟨xs, ys, g.1, g.2, rfl, hl.symm⟩
  yields := fun i H x H' hi g y => by
    obtain ⟨T, x, y, e1, e2, e3, e4, e5⟩ := y
    exact ⟨T, x, y, e1, e2, e3, e4 _ g.1, e5 _ g.2⟩
theorem walk_zipX {z : Str} (hl : z.cps.size = ys.length) : Walk (ItzX K z b) ys.length (fun H => SqL K H b ys) (fun i H v H' => ∃ T y c, v = .ref T ∧ H T = none ∧ H' = upd H T (.tup [.str ⟨#[c]⟩, y]) ∧ z.cps[i]? = some c ∧ ys[i]? = some y) where
  goes := fun i H hi g => ⟨ys, ys[i], z.cps[i]'(by omega), g, Array.getElem?_eq_getElem (by omega), List.getElem?_eq_getElem hi⟩
  stops := fun H g => ⟨ys, g, hl, rfl⟩
  yields := fun i H x H' hi g y => by
    obtain ⟨T, y, c, e1, e2, e3, e4, e5⟩ := y
    exact ⟨T, y, c, e1, e2, e3, e4, e5 _ g⟩
theorem walk_enumS {k : Int} : Walk (IteS K a k) xs.length (fun H => SqL K H a xs) (YPair (fun i => some (.int (k + (i : Nat)))) (fun i => xs[i]?)) where
  goes := fun i H hi g => ⟨xs, xs[i], g, List.getElem?_eq_getElem hi⟩
  stops := fun H g => ⟨xs, g, rfl⟩
  yields := fun i H x H' hi g y => by
    obtain ⟨T, x, e1, e2, e3, e4⟩ := y
    exact ⟨T, _, x, e1, e2, e3, rfl, e4 _ g⟩
end
end K72

set_option Elab.async false
set_option linter.all false
set_option maxRecDepth 100000
set_option maxHeartbeats 4000000
/-! programs as they stand in the heap -/
namespace K72
open PySem PySem.Spec PyProof.Rows L2 TL
/-- tuples stand -/
def TS (H H' : Hp) : Prop := ∀ a xs, H a = some (.tup xs) → H' a = some (.tup xs)
theorem TS.refl (H : Hp) : TS H H := fun _ _ h => h
theorem TS.trans {H H1 H2 : Hp} (a : TS H H1) (b : TS H1 H2) : TS H H2 := fun p xs h => b p xs (a p xs h)
theorem TS.of {H H' : Hp} (s : Same H H') : TS H H' := fun a xs h => s _ _ h
theorem TS.kp {H H' : Hp} {r : Addr} {o : HO} (k : Kp1 r H H') (hr : H r = some o) (ho : ∀ xs, o ≠ .tup xs) : TS H H' := fun a xs h =>
  k _ _ h fun e => by
    rw [e, hr] at h
    exact ho xs (Option.some.inj h)
theorem TS.upd {H : Hp} {r : Addr} {o u : HO} (hr : H r = some o) (ho : ∀ xs, o ≠ .tup xs) : TS H (L2.upd H r u) := TS.kp (Kp1.upd u) hr ho
def Pl.vs : Pl → List V
  | .num n => [.str "number", .int (n : Int)]
  | .box i => [.str "box", .str (letS i)]
def PlAt (H : Hp) (v : V) (p : Pl) : Prop := ∃ a, v = .ref a ∧ H a = some (.tup p.vs)
def WoAt (H : Hp) (v : V) : Wo → Prop
  | .pl p => PlAt H v p
  | .add a b => ∃ t va vb, v = .ref t ∧ H t = some (.tup [.str "plus", va, vb]) ∧ PlAt H va a ∧ PlAt H vb b
  | .sub a b => ∃ t va vb, v = .ref t ∧ H t = some (.tup [.str "minus", va, vb]) ∧ PlAt H va a ∧ PlAt H vb b
def RwAt (H : Hp) (v : V) : Rw → Prop
  | .load b c => ∃ t, v = .ref t ∧ H t = some (.tup [.str "load", .str (letS b), .int (c : Int)])
  | .store c e => ∃ t ve, v = .ref t ∧ H t = some (.tup [.str "store", .int (c : Int), ve]) ∧ WoAt H ve e
  | .swap b c e => ∃ t ve, v = .ref t ∧ H t = some (.tup [.str "swap", .str (letS b), .int (c : Int), ve]) ∧ WoAt H ve e
  | .let_ b e => ∃ t ve, v = .ref t ∧ H t = some (.tup [.str "let", .str (letS b), ve]) ∧ WoAt H ve e
  | .say e => ∃ t ve, v = .ref t ∧ H t = some (.tup [.str "say", ve]) ∧ WoAt H ve e
  | .go k => ∃ t, v = .ref t ∧ H t = some (.tup [.str "go", .int (k : Int)])
  | .unl q x y k => ∃ t vx vy, v = .ref t ∧ H t = some (.tup [.str "unless", .str (sgn q), vx, vy, .int (k : Int)]) ∧ WoAt H vx x ∧ WoAt H vy y
theorem PlAt.ts {H H' : Hp} {v : V} {p : Pl} (s : TS H H') (h : PlAt H v p) : PlAt H' v p := by
  obtain ⟨a, e, h⟩ := h
  exact ⟨a, e, s _ _ h⟩
theorem WoAt.ts {H H' : Hp} {v : V} {e : Wo} (s : TS H H') (h : WoAt H v e) : WoAt H' v e := by
  cases e with
  | pl p => exact PlAt.ts s h
  | add a b =>
    obtain ⟨t, va, vb, e, h, ha, hb⟩ := h
    exact ⟨t, va, vb, e, s _ _ h, ha.ts s, hb.ts s⟩
  | sub a b =>
    obtain ⟨t, va, vb, e, h, ha, hb⟩ := h
    exact ⟨t, va, vb, e, s _ _ h, ha.ts s, hb.ts s⟩
theorem RwAt.ts {H H' : Hp} {v : V} {r : Rw} (s : TS H H') (h : RwAt H v r) : RwAt H' v r := by
  cases r with
  | load b c =>
    obtain ⟨t, e, h⟩ := h
    exact ⟨t, e, s _ _ h⟩
  | store c e =>
    obtain ⟨t, ve, q, h, hw⟩ := h
    exact ⟨t, ve, q, s _ _ h, hw.ts s⟩
  | swap b c e =>
    obtain ⟨t, ve, q, h, hw⟩ := h
    exact ⟨t, ve, q, s _ _ h, hw.ts s⟩
  | let_ b e =>
    obtain ⟨t, ve, q, h, hw⟩ := h
    exact ⟨t, ve, q, s _ _ h, hw.ts s⟩
  | say e =>
    obtain ⟨t, ve, q, h, hw⟩ := h
    exact ⟨t, ve, q, s _ _ h, hw.ts s⟩
  | go k =>
    obtain ⟨t, e, h⟩ := h
    exact ⟨t, e, s _ _ h⟩
  | unl q x y k =>
    obtain ⟨t, vx, vy, e, h, hx, hy⟩ := h
    exact ⟨t, vx, vy, e, s _ _ h, hx.ts s, hy.ts s⟩
/-- a value that is an address -/
theorem RwAt.ref {H : Hp} {v : V} {r : Rw} (h : RwAt H v r) : ∃ t xs, v = .ref t ∧ H t = some (.tup xs) := by
  cases r with
  | load b c => obtain ⟨t, e, h⟩ := h; exact ⟨t, _, e, h⟩
  | store c e => obtain ⟨t, ve, q, h, hw⟩ := h; exact ⟨t, _, q, h⟩
  | swap b c e => obtain ⟨t, ve, q, h, hw⟩ := h; exact ⟨t, _, q, h⟩
  | let_ b e => obtain ⟨t, ve, q, h, hw⟩ := h; exact ⟨t, _, q, h⟩
  | say e => obtain ⟨t, ve, q, h, hw⟩ := h; exact ⟨t, _, q, h⟩
  | go k => obtain ⟨t, e, h⟩ := h; exact ⟨t, _, e, h⟩
  | unl q x y k => obtain ⟨t, vx, vy, e, h, hx, hy⟩ := h; exact ⟨t, _, e, h⟩
theorem WoAt.ref {H : Hp} {v : V} {e : Wo} (h : WoAt H v e) : ∃ t xs, v = .ref t ∧ H t = some (.tup xs) := by
  cases e with
  | pl p => obtain ⟨a, e, h⟩ := h; exact ⟨a, _, e, h⟩
  | add a b => obtain ⟨t, va, vb, e, h, _⟩ := h; exact ⟨t, _, e, h⟩
  | sub a b => obtain ⟨t, va, vb, e, h, _⟩ := h; exact ⟨t, _, e, h⟩
/-- rows at values, one by one -/
def RowsAt (H : Hp) (vs : List V) (rs : List Rw) : Prop := vs.length = rs.length ∧ ∀ (i : Nat) v r, vs[i]? = some v → rs[i]? = some r → RwAt H v r
theorem RowsAt.nil (H : Hp) : RowsAt H [] [] := ⟨rfl, fun i v r h => by simp at h⟩
theorem RowsAt.ts {H H' : Hp} {vs : List V} {rs : List Rw} (s : TS H H') (h : RowsAt H vs rs) : RowsAt H' vs rs := ⟨h.1, fun i v r a b => (h.2 i v r a b).ts s⟩
theorem RowsAt.snoc {H : Hp} {vs : List V} {rs : List Rw} {v : V} {r : Rw} (h : RowsAt H vs rs) (hv : RwAt H v r) : RowsAt H (vs ++ [v]) (rs ++ [r]) := by
  refine ⟨by rw [List.length_append, List.length_append, h.1] <;> rfl, fun i u q a b => ?_⟩
  by_cases hi : i < vs.length
  · rw [List.getElem?_append_left hi] at a
    rw [List.getElem?_append_left (by rw [← h.1]; exact hi)] at b
    exact h.2 i u q a b
  · rw [List.getElem?_append_right (by omega)] at a
    rw [List.getElem?_append_right (by have := h.1; omega)] at b
    have hl := h.1
    have e : i - vs.length = 0 := by
      cases hn : i - vs.length with
      | zero => rfl
      | succ n =>
        rw [hn] at a
        simp at a
    rw [e] at a
    rw [show i - rs.length = 0 by omega] at b
    simp only [List.getElem?_cons_zero, Option.some.injEq] at a b
    rw [← a, ← b]
    exact hv
theorem RowsAt.at {H : Hp} {vs : List V} {rs : List Rw} (h : RowsAt H vs rs) {i : Nat} {r : Rw} (hr : rs[i]? = some r) : ∃ v, vs[i]? = some v ∧ RwAt H v r := by
  have hi := (List.getElem?_eq_some_iff.mp hr).1
  have hv : i < vs.length := by rw [h.1]; exact hi
  exact ⟨vs[i], List.getElem?_eq_getElem hv, h.2 i _ r (List.getElem?_eq_getElem hv) hr⟩
/-- the hands' lists: at h a list of the lists at ls, each of rows -/
structure HsAt (H : Hp) (h : Addr) (ls : List Addr) (hs : List (List Rw)) : Prop where
  top : H h = some (.lst (ls.map V.ref))
  len : ls.length = hs.length
  nd : (h :: ls).Nodup
  rows : ∀ (i : Nat) l rs, ls[i]? = some l → hs[i]? = some rs → ∃ vs, H l = some (.lst vs) ∧ RowsAt H vs rs
def ProgAt (H : Hp) (v : V) (p : Pg) : Prop := ∃ t h ls, v = .ref t ∧ H t = some (.tup [.int (p.cells : Int), .ref h]) ∧ HsAt H h ls p.hands
theorem HsAt.same {H H' : Hp} {h : Addr} {ls : List Addr} {hs : List (List Rw)} (s : Same H H') (k : HsAt H h ls hs) : HsAt H' h ls hs :=
  ⟨s _ _ k.top, k.len, k.nd, fun i l rs a b => by
    obtain ⟨vs, q, r⟩ := k.rows i l rs a b
    exact ⟨vs, s _ _ q, r.ts (TS.of s)⟩⟩
theorem ProgAt.same {H H' : Hp} {v : V} {p : Pg} (s : Same H H') (h : ProgAt H v p) : ProgAt H' v p := by
  obtain ⟨t, q, ls, e, a, b⟩ := h
  exact ⟨t, q, ls, e, s _ _ a, b.same s⟩
end K72

set_option Elab.async false
set_option linter.all false
set_option maxRecDepth 100000
set_option maxHeartbeats 4000000
/-! number_of, box_of, plain_of, worth_of -/
namespace K72
open PySem PySem.Spec PyProof.Rows L2 TL
theorem iteN {c A B : Prop} [Decidable c] (hc : ¬ c) (h : B) : if decide c = true then A else B := by
  rw [decide_eq_false hc]
  exact iteF h
theorem iteY {c A B : Prop} [Decidable c] (hc : c) (h : A) : if decide c = true then A else B := by
  rw [decide_eq_true hc]
  exact iteT h
theorem iteNY {c A B : Prop} [Decidable c] (hc : ¬ c) (h : A) : if (!decide c) = true then A else B := by
  rw [decide_eq_false hc]
  exact iteT h
theorem szw {n : Nat} (h : n ≤ 100000) : n ≤ sizeLine := Nat.le_trans h (by decide)
theorem head_ok : ∀ n : Nat, n < 1000 → 10 ≤ n → (numL n)[0]? ≠ some 48 := by decide +kernel
theorem figs : ∀ k : Nat, k < 10 → 48 + k ∈ tl ("0123456789" : Str) := by decide +kernel
theorem figs_no : ∀ k : Nat, k < 8 → 97 + k ∉ tl ("0123456789" : Str) := by decide +kernel
theorem lets : ∀ k : Nat, k < 8 → 97 + k ∈ tl ("abcdefgh" : Str) := by decide +kernel
theorem plus_is : (V.str "+" : V) = .str ⟨#[43]⟩ := congrArg V.str (by decide +kernel)
theorem minus_is : (V.str "-" : V) = .str ⟨#[45]⟩ := congrArg V.str (by decide +kernel)
def sp_number_of : Sp := fun vs H Q _ => ∃ x : Str, vs = [.str x] ∧ ((∃ n : Nat, n < 1000 ∧ x = numS n ∧ Q (.int (n : Int)) H) ∨ ∃ i : Nat, i < 8 ∧ x = letS i ∧ Q .non H)
def sp_box_of : Sp := fun vs H Q _ => ∃ i : Nat, vs = [.str (letS i)] ∧ i < 8 ∧ Q (.str (letS i)) H
def sp_plain_of : Sp := fun vs H Q _ => ∃ p : Pl, vs = [.str p.txt] ∧ p.ok ∧ ∀ v H', PlAt H' v p → Same H H' → Q v H'
def sp_worth_of : Sp := fun vs H Q _ => ∃ e : Wo, vs = [.str e.txt] ∧ e.ok ∧ ∀ v H', WoAt H' v e → Same H H' → Q v H'
section
variable {P : Program} {w : World} {K : PySem.W.Frag} {mg : Str → Option Value} {base : Heap} {f : Addr} {fd : FuncData}
theorem sc_number_of : FnScope ["word", "sign"] ["word"] (defScope s_number_of) := ⟨rfl, rfl, rfl, by decide +kernel, rfl, by decide +kernel, by decide +kernel⟩
theorem ok_number_of (T : Txt K mg) (F : FnP K "number_of" "number_of" s_number_of [] f fd) : FnOk P w K mg base CX0 1 f fd ["word"] sp_number_of := by
  refine fok F sc_number_of (fun vs H Q E h => ?_) (fun cdv A outer s H vs Q E hr h => ?_)
  · obtain ⟨_, rfl, _⟩ := h
    rfl
  · obtain ⟨x, rfl, h⟩ := h
    refine ⟨_, (pss_cons (ps_if (PW.pt (pw_or (pt_cmpR op_lt (pe_callB call_len_str (by rfl) T.n_len (by decide +kernel) (pa_cons (pv 0) pa_nil)) pe_int (nomark _)) (pw_or (pt_cmpR op_gt (pe_callB call_len_str (by rfl) T.n_len (by decide +kernel) (pa_cons (pv 0) pa_nil)) pe_int (nomark _)) (pw_or1 (PW.pt (pw_and (pt_cmpR op_gt (pe_callB call_len_str (by rfl) T.n_len (by decide +kernel) (pa_cons (pv 0) pa_nil)) pe_int (nomark _)) (pw_and1 (pt_cmpR op_eq (pe_ix ix_str (pv 0) pe_int (fun _ _ => rfl)) pe_str (nomark _)))))))))
  (pss_one (ps_ret pe_non))
  pss_nil)
  (pss_cons (ps_for PassesOwn.never rfl (pi_str (pv 0)) (pg_name (i := 1) sc_number_of.nd rfl (Or.inl rfl))
  (pss_one (ps_if (pt_cmpR op_notIn_sign (pv 1) (pe_gl T.g_FIGURES) (by rfl))
  (pss_one (ps_ret pe_non))
  pss_nil)))
  (pss_one (ps_ret (pe_callTy call_int_str (by rfl) T.n_int (by decide +kernel) (pa_cons (pv 0) pa_nil)))))), ?_⟩
    rcases h with ⟨n, hn, rfl, q⟩ | ⟨i, hi, rfl, q⟩
    · have hl3 : (numS n).length ≤ 3 := len_numS hn
      have hL : (numS n).length = (numL n).length := by rw [len_tl, tl_numS]
      have hl1 : 1 ≤ (numS n).length := by
        rw [hL]
        have := numL_ne n
        cases h : numL n with
        | nil => exact absurd h this
        | cons a l => exact Nat.succ_le_succ (Nat.zero_le _)
      have hz : (numS n).length ≤ sizeLine := szw (by omega)
      refine ⟨_, rfl, _, rfl, hz, _, _, rfl, rfl, _, rfl, iteN (by omega) ?_⟩
      refine ⟨_, rfl, _, rfl, hz, _, _, rfl, rfl, _, rfl, iteN (by omega) ?_⟩
      have rest : ∀ b : Bool, b = false → if b = true then Q V.non H else
          (tSeq (tFor (iStr (tVar 0)) (gName 1) (tIfS (tTest (tOp (fun x y H Q => ∃ (c : Nat) (z : Str), x = .str ⟨#[c]⟩ ∧ y = .str z ∧ Q (.bl (!decide (c ∈ z.cps.toList))) H) (tVar 1) (tC (V.str "0123456789")))) (tRet (tC .non)) tNext))
            (tRet (tCB (fun xs H Q => ∃ a n, xs = [V.str a] ∧ PySem.intText? a = some n ∧ a.length ≤ 640 ∧ Q (.int n) H) (tCons (tVar 0) tNil)))) { nx := fun _ H' => Q .non H', rt := Q } [some (.str (numS n)), none] H := by
        rintro b rfl
        refine iteF ?_
        refine ⟨_, rfl, numS n, rfl, for_it walk_str (fun i σ H' => ∃ v, σ = [some (V.str (numS n)), v] ∧ H' = H) ⟨none, rfl, rfl⟩ (fun _ _ _ _ _ => trivial) ?_ ?_⟩
        · rintro i y σ H1 H2 hi ⟨v, rfl, rfl⟩ ⟨rfl, c, hc, rfl⟩
          have hm : c ∈ numL n := by
            rw [← tl_numS]
            exact Array.mem_toList_iff.mpr (Array.mem_of_getElem? hc)
          have hd := numL_digits n c hm
          refine ⟨_, rfl, c, _, rfl, rfl, _, rfl, iteNS ?_ ⟨_, rfl, rfl⟩⟩
          have e := figs (c - 48) (by omega)
          rw [show 48 + (c - 48) = c by omega] at e
          exact e
        · rintro σ H1 ⟨v, rfl, rfl⟩
          exact ⟨_, rfl, _, _, rfl, int_num (by rw [← hL]; omega), by omega, q⟩
      refine ⟨_, rfl, _, rfl, hz, _, _, rfl, rfl, _, rfl, ite2 (fun h1 => ?_) (fun h1 => ?_)⟩
      · have hgt := of_decide_eq_true h1
        have h10 : 10 ≤ n := by
          rcases Nat.lt_or_ge n 10 with h | h
          · rw [hL, numL_lt h] at hgt
            simp at hgt
          · exact h
        have h0 : 0 < (numL n).length := by omega
        have hc0 : atI (numS n).cps.toList ((0 : Nat) : Int) = some (numL n)[0] := atI_nat (by
          show (tl (numS n))[0]? = _
          rw [tl_numS]
          exact List.getElem?_eq_getElem h0)
        have hne : (numL n)[0] ≠ 48 := fun e => head_ok n hn h10 (by rw [List.getElem?_eq_getElem h0, e])
        refine ⟨_, rfl, _, _, _, rfl, rfl, hz, hc0, rfl, _, rfl, rest _ (decide_eq_false fun e => ?_)⟩
        have e2 : (⟨#[(numL n)[0]]⟩ : Str) = "0" := V.str.inj e
        have e3 : (⟨#[(numL n)[0]]⟩ : Str) = ⟨#[48]⟩ := e2.trans (by decide +kernel)
        have e4 := Str.mk.inj e3
        have e5 : [(numL n)[0]] = [48] := by simpa using congrArg Array.toList e4
        exact hne (List.head_eq_of_cons_eq e5)
      · exact rest _ rfl
    · have hz : (letS i).length ≤ sizeLine := szw (by rw [len_letS]; decide)
      refine ⟨_, rfl, _, rfl, hz, _, _, rfl, rfl, _, rfl, iteN (by rw [len_letS]; decide) ?_⟩
      refine ⟨_, rfl, _, rfl, hz, _, _, rfl, rfl, _, rfl, iteN (by rw [len_letS]; decide) ?_⟩
      refine ⟨_, rfl, _, rfl, hz, _, _, rfl, rfl, _, rfl, iteN (by rw [len_letS]; decide) ?_⟩
      refine iteF ?_
      refine ⟨_, rfl, letS i, rfl, for_it walk_str (fun j σ H' => j = 0 ∧ σ = [some (V.str (letS i)), none] ∧ H' = H) ⟨rfl, rfl, rfl⟩ (fun _ _ _ _ _ => trivial) ?_ ?_⟩
      · rintro j y σ H1 H2 hj ⟨rfl, rfl, rfl⟩ ⟨rfl, c, hc, rfl⟩
        have e : c = 97 + i := by
          have : (#[97 + i] : Array Nat)[0]? = some c := hc
          simpa using this.symm
        subst e
        refine ⟨_, rfl, _, _, rfl, rfl, _, rfl, iteNY (figs_no i hi) ?_⟩
        exact q
      · rintro σ H1 ⟨h0, _⟩
        exact absurd h0 (by show ¬ (1 : Nat) = 0; decide)
theorem sc_box_of : FnScope ["word"] ["word"] (defScope s_box_of) := ⟨rfl, rfl, rfl, by decide +kernel, rfl, by decide +kernel, by decide +kernel⟩
theorem ok_box_of (T : Txt K mg) (F : FnP K "box_of" "box_of" s_box_of [] f fd) : FnOk P w K mg base CX0 1 f fd ["word"] sp_box_of := by
  refine fok F sc_box_of (fun vs H Q E h => ?_) (fun cdv A outer s H vs Q E hr h => ?_)
  · obtain ⟨_, rfl, _⟩ := h
    rfl
  · obtain ⟨i, rfl, hi, q⟩ := h
    refine ⟨_, (pss_cons (ps_if (PW.pt (pw_and (pt_cmpR op_eq (pe_callB call_len_str (by rfl) T.n_len (by decide +kernel) (pa_cons (pv 0) pa_nil)) pe_int (nomark _)) (pw_and1 (pt_cmpR op_in_sign (pv 0) (pe_gl T.g_BOXES) (by rfl)))))
  (pss_one (ps_ret (pv 0)))
  pss_nil)
  (pss_one (ps_ret pe_non))), ?_⟩
    have hz : (letS i).length ≤ sizeLine := szw (by rw [len_letS]; decide)
    refine ⟨_, rfl, _, rfl, hz, rfl, _, rfl, iteY (by rw [len_letS] <;> rfl) ?_⟩
    refine ⟨_, rfl, _, _, rfl, rfl, _, rfl, iteY (lets i hi) ?_⟩
    exact ⟨_, rfl, q⟩
theorem sc_plain_of : FnScope ["word", "number"] ["word"] (defScope s_plain_of) := ⟨rfl, rfl, rfl, by decide +kernel, rfl, by decide +kernel, by decide +kernel⟩
theorem ok_plain_of (T : Txt K mg) (F : FnP K "plain_of" "plain_of" s_plain_of [] f fd) (h_number_of : Def1 P w K mg base "number_of" ["word"] [] 1 sp_number_of) (h_box_of : Def1 P w K mg base "box_of" ["word"] [] 1 sp_box_of) :
    FnOk P w K mg base CX0 2 f fd ["word"] sp_plain_of := by
  refine fok F sc_plain_of (fun vs H Q E h => ?_) (fun cdv A outer s H vs Q E hr h => ?_)
  · obtain ⟨_, rfl, _⟩ := h
    rfl
  · obtain ⟨p, rfl, hp, q⟩ := h
    refine ⟨_, (pss_cons (ps_set (i := 1) sc_plain_of.nd rfl (Or.inl rfl) (pe_cl h_number_of hr (pa_cons (pv 0) pa_nil)))
  (pss_cons (ps_if (pt_cmpR op_notN (pv 1) pe_non (nomark _))
  (pss_one (ps_ret (pe_tup (pa_cons pe_str (pa_cons (pv 1) pa_nil)))))
  pss_nil)
  (pss_cons (ps_if (pt_cmpR op_notN (pe_cl h_box_of hr (pa_cons (pv 0) pa_nil)) pe_non (nomark _))
  (pss_one (ps_ret (pe_tup (pa_cons pe_str (pa_cons (pv 0) pa_nil)))))
  pss_nil)
  (pss_one (ps_ret pe_non))))), ?_⟩
    cases p with
    | num n =>
      refine ⟨_, rfl, _, rfl, .inl ⟨n, hp, rfl, ?_⟩⟩
      refine ⟨_, rfl, rfl, _, rfl, iteNY (fun e => nomatch e) ?_⟩
      exact ⟨_, rfl, by show 2 ≤ sizeLine; decide, fun a ha => q _ _ ⟨a, rfl, upd_same⟩ (Same.new ha)⟩
    | box i =>
      refine ⟨_, rfl, _, rfl, .inr ⟨i, hp, rfl, ?_⟩⟩
      refine ⟨_, rfl, rfl, _, rfl, iteNS rfl ?_⟩
      refine ⟨_, rfl, i, rfl, hp, rfl, _, rfl, iteNY (fun e => nomatch e) ?_⟩
      exact ⟨_, rfl, by show 2 ≤ sizeLine; decide, fun a ha => q _ _ ⟨a, rfl, upd_same⟩ (Same.new ha)⟩
end
end K72

set_option Elab.async false
set_option linter.all false
set_option maxRecDepth 100000
set_option maxHeartbeats 4000000
/-! xs == [], xs != [] -/
namespace K72
open PySem PySem.Spec PyProof.Rows L2
def rEqNil (K : PySem.W.Frag) : R2 := fun x y H Q => ∃ a b xs, x = .ref a ∧ y = .ref b ∧ SqL K H a xs ∧ SqL K H b [] ∧ Q (.bl xs.isEmpty) H
def rNeNil (K : PySem.W.Frag) : R2 := fun x y H Q => ∃ a b xs, x = .ref a ∧ y = .ref b ∧ SqL K H a xs ∧ SqL K H b [] ∧ Q (.bl (!xs.isEmpty)) H
section
variable {X : Cx}
theorem op_eqNil (hu : X.A.units < cLine) : OpR X (compareOp .Eq) (rEqNil X.K) := by
  intro pins s σ H x y v u Q I rx ry h
  obtain ⟨a, b, xs, rfl, rfl, ha, hb, q⟩ := h
  cases rx
  cases ry
  obtain ⟨its, rv, p, _⟩ := I.list ha
  obtain ⟨its2, rv2, p2, _⟩ := I.list hb
  cases rv2
  cases xs with
  | nil =>
    cases rv
    exact SeqAt.eq_listAt (e := fun _ => true) p.isList p2.isList rfl hu (fun j h1 h2 => absurd h1 (Nat.not_lt_zero j)) ⟨.bl true, H, I, rfl, q⟩
  | cons z zs =>
    have hl := rv.length
    exact SeqAt.eq_list_lengthsAt p.isList p2.isList (by
      have e : its.toArray.size = zs.length + 1 := by rw [List.size_toArray, ← hl] <;> rfl
      rw [e]
      simp) hu ⟨.bl false, H, I, rfl, q⟩
theorem op_neNil (hu : X.A.units < cLine) : OpR X (compareOp .NotEq) (rNeNil X.K) := by
  intro pins s σ H x y v u Q I rx ry h
  obtain ⟨a, b, xs, rfl, rfl, ha, hb, q⟩ := h
  cases rx
  cases ry
  obtain ⟨its, rv, p, _⟩ := I.list ha
  obtain ⟨its2, rv2, p2, _⟩ := I.list hb
  cases rv2
  cases xs with
  | nil =>
    cases rv
    exact SeqAt.RcNeAt.lists (e := fun _ => true) p.isList p2.isList rfl hu (fun j h1 h2 => absurd h1 (Nat.not_lt_zero j)) _ _ _ _ ⟨.bl false, H, I, rfl, q⟩
  | cons z zs =>
    have hl := rv.length
    exact SeqAt.RcNeAt.lists_lengths p.isList p2.isList (by
      have e : its.toArray.size = zs.length + 1 := by rw [List.size_toArray, ← hl] <;> rfl
      rw [e]
      simp) hu _ _ _ _ ⟨.bl true, H, I, rfl, q⟩
end
end K72

set_option Elab.async false
set_option linter.all false
set_option maxRecDepth 100000
set_option maxHeartbeats 4000000
/-! worth_of, unless_of -/
namespace K72
open PySem PySem.Spec PyProof.Rows L2 TL
theorem plus_no {p : Pl} (h : p.ok) : 43 ∉ tl p.txt := fun m => by have := Pl.signs h _ m; omega
theorem minus_no {p : Pl} (h : p.ok) : 45 ∉ tl p.txt := fun m => by have := Pl.signs h _ m; omega
theorem tl_plus : tl ("+" : Str) = [43] := by decide +kernel
theorem tl_minus : tl ("-" : Str) = [45] := by decide +kernel
def sp_unless_of : Sp := fun vs H Q _ => ∃ (a : Addr) (q : Bool) (x y : Wo) (k : Nat), vs = [.ref a] ∧ H a = some (.lst ((Rw.unl q x y k).words.map V.str)) ∧ x.ok ∧ y.ok ∧ k < 1000 ∧ ∀ v H', RwAt H' v (.unl q x y k) → Same H H' → Q v H'
section
variable {P : Program} {w : World} {K : PySem.W.Frag} {mg : Str → Option Value} {base : Heap} {f : Addr} {fd : FuncData}
theorem sc_worth_of : FnScope ["word", "sign", "joined", "left", "mark", "right", "one", "other"] ["word"] (defScope s_worth_of) := ⟨rfl, rfl, rfl, by decide +kernel, rfl, by decide +kernel, by decide +kernel⟩
theorem ok_worth_of (T : Txt K mg) (F : FnP K "worth_of" "worth_of" s_worth_of [] f fd) (h_plain_of : Def1 P w K mg base "plain_of" ["word"] [] 2 sp_plain_of) :
    FnOk P w K mg base CX0 3 f fd ["word"] sp_worth_of := by
  refine fok F sc_worth_of (fun vs H Q E h => ?_) (fun cdv A outer s H vs Q E hr h => ?_)
  · obtain ⟨_, rfl, _⟩ := h
    rfl
  · obtain ⟨e, rfl, he, q⟩ := h
    refine ⟨_, (pss_cons (ps_for PassesOwn.never rfl (pi_list (pe_lst (pa_cons (pe_tup (pa_cons pe_str (pa_cons pe_str pa_nil))) (pa_cons (pe_tup (pa_cons pe_str (pa_cons pe_str pa_nil))) pa_nil)))) (pg_tup (by rfl) (pgs_cons (pg_name (i := 1) sc_worth_of.nd rfl (Or.inl rfl)) (pgs_cons (pg_name (i := 2) sc_worth_of.nd rfl (Or.inl rfl)) pgs_nil)))
  (pss_one (ps_if (pt_cmpR op_in_sign (pv 1) (pv 0) (by rfl))
  (pss_cons (ps_asg (pe_partition (pv 0) (pv 1)) (pg_tup (by rfl) (pgs_cons (pg_name (i := 3) sc_worth_of.nd rfl (Or.inl rfl)) (pgs_cons (pg_name (i := 4) sc_worth_of.nd rfl (Or.inl rfl)) (pgs_cons (pg_name (i := 5) sc_worth_of.nd rfl (Or.inl rfl)) pgs_nil)))))
  (pss_cons (ps_set (i := 6) sc_worth_of.nd rfl (Or.inl rfl) (pe_cl h_plain_of hr (pa_cons (pv 3) pa_nil)))
  (pss_cons (ps_set (i := 7) sc_worth_of.nd rfl (Or.inl rfl) (pe_cl h_plain_of hr (pa_cons (pv 5) pa_nil)))
  (pss_cons (ps_if (PW.pt (pw_or (pt_cmpR op_isN (pv 6) pe_non (nomark _)) (pw_or1 (pt_cmpR op_isN (pv 7) pe_non (nomark _)))))
  (pss_one (ps_ret pe_non))
  pss_nil)
  (pss_one (ps_ret (pe_tup (pa_cons (pv 2) (pa_cons (pv 6) (pa_cons (pv 7) pa_nil))))))))))
  pss_nil)))
  (pss_one (ps_ret (pe_cl h_plain_of hr (pa_cons (pv 0) pa_nil))))), ?_⟩
    refine ⟨by show 2 ≤ sizeLine; decide, fun p1 hp1 => ⟨by show 2 ≤ sizeLine; decide, fun p2 hp2 => ⟨by show 2 ≤ sizeLine; decide, fun l hl => ?_⟩⟩⟩
    have s1 : Same H (upd H p1 (.tup [.str "+", .str "plus"])) := Same.new hp1
    have s2 : Same (upd H p1 (.tup [.str "+", .str "plus"])) (upd (upd H p1 (.tup [.str "+", .str "plus"])) p2 (.tup [.str "-", .str "minus"])) := Same.new hp2
    have s3 := Same.new (o := .lst [V.ref p1, V.ref p2]) hl
    have S : Same H _ := s1.trans (s2.trans s3)
    have e1 := s3 _ _ (s2 _ _ (upd_same (H := H) (a := p1)))
    have e2 := s3 _ _ (upd_same (H := upd H p1 (.tup [.str "+", .str "plus"])) (a := p2))
    have e3 := upd_same (H := upd (upd H p1 (.tup [.str "+", .str "plus"])) p2 (.tup [.str "-", .str "minus"])) (a := l) (o := .lst [V.ref p1, V.ref p2])
    revert S e1 e2 e3
    show ∀ (S : Same H (upd (upd (upd H p1 (.tup [.str "+", .str "plus"])) p2 (.tup [.str "-", .str "minus"])) l (.lst [V.ref p1, V.ref p2]))), _
    generalize upd (upd (upd H p1 (.tup [.str "+", .str "plus"])) p2 (.tup [.str "-", .str "minus"])) l (.lst [V.ref p1, V.ref p2]) = H3
    intro S e1 e2 e3
    have hz : e.txt.length ≤ sizeLine := szw (by have := Wo.len he; omega)
    refine ⟨l, rfl, ⟨_, SqL.of e3⟩, for_list (K := K) (a := l) (xs := [V.ref p1, V.ref p2]) (fun i σ H' => H' = H3 ∧ ((i = 0 ∧ σ = [some (.str e.txt), none, none, none, none, none, none, none]) ∨ (i = 1 ∧ 43 ∉ tl e.txt ∧ ∃ v1 v2, σ = [some (.str e.txt), v1, v2, none, none, none, none, none]) ∨ (i = 2 ∧ 43 ∉ tl e.txt ∧ 45 ∉ tl e.txt ∧ ∃ v1 v2, σ = [some (.str e.txt), v1, v2, none, none, none, none, none])))
      ⟨rfl, .inl ⟨rfl, rfl⟩⟩ (fun i σ H' _ ⟨z, _⟩ => by rw [z]; exact SqL.of e3) ?_ ?_⟩
    · rintro i y σ H' hi ⟨rfl, ⟨rfl, rfl⟩ | ⟨rfl, hno, v1, v2, rfl⟩ | ⟨rfl, _⟩⟩
      · cases hi
        refine ⟨p1, _, rfl, SqT.of e1, rfl, _, _, rfl, _, _, rfl, rfl, ?_⟩
        refine ⟨_, rfl, _, rfl, 43, _, plus_is, rfl, _, rfl, ?_⟩
        cases e with
        | pl p => exact iteN (plus_no he) ⟨rfl, .inr (.inl ⟨rfl, plus_no he, _, _, rfl⟩)⟩
        | add a b =>
          have hm : 43 ∈ tl (a.txt ++ "+" ++ b.txt) := by
            rw [tl_append, tl_append, tl_plus]
            simp
          refine iteY hm ?_
          refine ⟨_, rfl, ⟨_, rfl⟩, _, rfl, _, _, rfl, rfl, by decide +kernel, hz, fun t ht => ?_⟩
          have ep : Txt.partition (Wo.txt (.add a b)) "+" = (a.txt, ("+" : Str), b.txt) := partition_app tl_plus (plus_no he.1)
          refine ⟨t, _, rfl, SqT.of upd_same, rfl, _, _, rfl, _, _, rfl, _, _, rfl, rfl, ?_⟩
          rw [ep]
          refine ⟨_, rfl, a, rfl, he.1, fun va H4 ha s4 => ?_⟩
          refine ⟨_, rfl, b, rfl, he.2, fun vb H5 hb s5 => ?_⟩
          have hA := ha.ts (TS.of s5)
          obtain ⟨ra, eva, _⟩ := id ha
          obtain ⟨rb, evb, _⟩ := id hb
          subst eva evb
          refine ⟨_, rfl, rfl, _, rfl, iteN (fun z => nomatch z) ⟨_, rfl, rfl, _, rfl, iteN (fun z => nomatch z) ?_⟩⟩
          refine ⟨_, rfl, _, rfl, _, rfl, by show 3 ≤ sizeLine; decide, fun t6 ht6 => ?_⟩
          exact q _ _ ⟨t6, _, _, rfl, upd_same, hA.ts (TS.of (Same.new ht6)), hb.ts (TS.of (Same.new ht6))⟩ (S.trans ((Same.new ht).trans (s4.trans (s5.trans (Same.new ht6)))))
        | sub a b =>
          have hm : 43 ∉ tl (a.txt ++ "-" ++ b.txt) := by
            rw [tl_append, tl_append, tl_minus]
            intro m
            rcases List.mem_append.mp m with m | m
            · rcases List.mem_append.mp m with m | m
              · exact plus_no he.1 m
              · exact absurd m (by decide)
            · exact plus_no he.2 m
          exact iteN hm ⟨rfl, .inr (.inl ⟨rfl, hm, _, _, rfl⟩)⟩
      · cases hi
        refine ⟨p2, _, rfl, SqT.of e2, rfl, _, _, rfl, _, _, rfl, rfl, ?_⟩
        refine ⟨_, rfl, _, rfl, 45, _, minus_is, rfl, _, rfl, ?_⟩
        cases e with
        | pl p => exact iteN (minus_no he) ⟨rfl, .inr (.inr ⟨rfl, plus_no he, minus_no he, _, _, rfl⟩)⟩
        | add a b =>
          exact absurd (show 43 ∈ tl (a.txt ++ "+" ++ b.txt) by rw [tl_append, tl_append, tl_plus]; simp) hno
        | sub a b =>
          have hm : 45 ∈ tl (a.txt ++ "-" ++ b.txt) := by
            rw [tl_append, tl_append, tl_minus]
            simp
          refine iteY hm ?_
          refine ⟨_, rfl, ⟨_, rfl⟩, _, rfl, _, _, rfl, rfl, by decide +kernel, hz, fun t ht => ?_⟩
          have ep : Txt.partition (Wo.txt (.sub a b)) "-" = (a.txt, ("-" : Str), b.txt) := partition_app tl_minus (minus_no he.1)
          refine ⟨t, _, rfl, SqT.of upd_same, rfl, _, _, rfl, _, _, rfl, _, _, rfl, rfl, ?_⟩
          rw [ep]
          refine ⟨_, rfl, a, rfl, he.1, fun va H4 ha s4 => ?_⟩
          refine ⟨_, rfl, b, rfl, he.2, fun vb H5 hb s5 => ?_⟩
          have hA := ha.ts (TS.of s5)
          obtain ⟨ra, eva, _⟩ := id ha
          obtain ⟨rb, evb, _⟩ := id hb
          subst eva evb
          refine ⟨_, rfl, rfl, _, rfl, iteN (fun z => nomatch z) ⟨_, rfl, rfl, _, rfl, iteN (fun z => nomatch z) ?_⟩⟩
          refine ⟨_, rfl, _, rfl, _, rfl, by show 3 ≤ sizeLine; decide, fun t6 ht6 => ?_⟩
          exact q _ _ ⟨t6, _, _, rfl, upd_same, hA.ts (TS.of (Same.new ht6)), hb.ts (TS.of (Same.new ht6))⟩ (S.trans ((Same.new ht).trans (s4.trans (s5.trans (Same.new ht6)))))
      · cases hi
    · rintro σ H' ⟨rfl, ⟨z, _⟩ | ⟨z, _⟩ | ⟨_, h1, h2, v1, v2, rfl⟩⟩
      · exact absurd z (by show ¬ (2 : Nat) = 0; decide)
      · exact absurd z (by show ¬ (2 : Nat) = 1; decide)
      · cases e with
        | pl p => exact ⟨_, rfl, p, rfl, he, fun v H4 hv s4 => q v H4 hv (S.trans s4)⟩
        | add a b => exact absurd (show 43 ∈ tl (a.txt ++ "+" ++ b.txt) by rw [tl_append, tl_append, tl_plus]; simp) h1
        | sub a b => exact absurd (show 45 ∈ tl (a.txt ++ "-" ++ b.txt) by rw [tl_append, tl_append, tl_minus]; simp) h2
theorem sc_unless_of : FnScope ["words", "one", "other", "to"] ["words"] (defScope s_unless_of) := ⟨rfl, rfl, rfl, by decide +kernel, rfl, by decide +kernel, by decide +kernel⟩
theorem sgn_in (q : Bool) : inV (V.str (sgn q)) [.str "=", .str "<"] = true := by cases q <;> decide +kernel
theorem ok_unless_of (T : Txt K mg) (F : FnP K "unless_of" "unless_of" s_unless_of [] f fd) (h_number_of : Def1 P w K mg base "number_of" ["word"] [] 1 sp_number_of) (h_worth_of : Def1 P w K mg base "worth_of" ["word"] [] 3 sp_worth_of) :
    FnOk P w K mg base CX0 4 f fd ["words"] sp_unless_of := by
  refine fok F sc_unless_of (fun vs H Q E h => ?_) (fun cdv A outer s H vs Q E hr h => ?_)
  · obtain ⟨_, _, _, _, _, rfl, _⟩ := h
    rfl
  · obtain ⟨a, g, x, y, k, rfl, hL, hx, hy, hk, q⟩ := h
    refine ⟨_, (pss_cons (ps_if (PW.pt (pw_or (pt_cmpR op_ne (pe_callB call_len_seq (by rfl) T.n_len (by decide +kernel) (pa_cons (pv 0) pa_nil)) pe_int (nomark _)) (pw_or (pt_cmpR op_notIn_seq (pe_ix ix_list (pv 0) pe_int (fun _ _ => rfl)) (pe_tup (pa_cons pe_str (pa_cons pe_str pa_nil))) (by rfl)) (pw_or1 (pt_cmpR op_ne (pe_ix ix_list (pv 0) pe_int (fun _ _ => rfl)) pe_str (nomark _))))))
  (pss_one (ps_ret pe_non))
  pss_nil)
  (pss_cons (ps_set (i := 1) sc_unless_of.nd rfl (Or.inl rfl) (pe_cl h_worth_of hr (pa_cons (pe_ix ix_list (pv 0) pe_int (fun _ _ => rfl)) pa_nil)))
  (pss_cons (ps_set (i := 2) sc_unless_of.nd rfl (Or.inl rfl) (pe_cl h_worth_of hr (pa_cons (pe_ix ix_list (pv 0) pe_int (fun _ _ => rfl)) pa_nil)))
  (pss_cons (ps_set (i := 3) sc_unless_of.nd rfl (Or.inl rfl) (pe_cl h_number_of hr (pa_cons (pe_ix ix_list (pv 0) pe_int (fun _ _ => rfl)) pa_nil)))
  (pss_cons (ps_if (PW.pt (pw_or (pt_cmpR op_isN (pv 1) pe_non (nomark _)) (pw_or (pt_cmpR op_isN (pv 2) pe_non (nomark _)) (pw_or1 (pt_cmpR op_isN (pv 3) pe_non (nomark _))))))
  (pss_one (ps_ret pe_non))
  pss_nil)
  (pss_one (ps_ret (pe_tup (pa_cons pe_str (pa_cons (pe_ix ix_list (pv 0) pe_int (fun _ _ => rfl)) (pa_cons (pv 1) (pa_cons (pv 2) (pa_cons (pv 3) pa_nil))))))))))))), ?_⟩
    refine ⟨_, rfl, _, _, rfl, .inl (SqL.of hL), rfl, _, rfl, iteNS rfl ?_⟩
    refine ⟨_, rfl, _, _, _, _, rfl, rfl, SqL.of hL, rfl, by show 2 ≤ sizeLine; decide, fun p hp => ?_⟩
    have S1 := Same.new (o := .tup [.str "=", .str "<"]) hp
    refine ⟨p, _, rfl, .inr (SqT.of upd_same), rfl, rfl, _, rfl, ?_⟩
    rw [if_pos rfl, sgn_in g]
    refine iteF ?_
    have hL1 := S1 _ _ hL
    refine ⟨_, rfl, _, _, _, _, rfl, rfl, SqL.of hL1, rfl, rfl, _, rfl, iteNS rfl ?_⟩
    refine ⟨_, rfl, _, _, _, _, rfl, rfl, SqL.of hL1, rfl, x, rfl, hx, fun vx H2 ax s2 => ?_⟩
    have hL2 := s2 _ _ hL1
    refine ⟨_, rfl, _, _, _, _, rfl, rfl, SqL.of hL2, rfl, y, rfl, hy, fun vy H3 ay s3 => ?_⟩
    have hL3 := s3 _ _ hL2
    refine ⟨_, rfl, _, _, _, _, rfl, rfl, SqL.of hL3, rfl, _, rfl, .inl ⟨k, hk, rfl, ?_⟩⟩
    obtain ⟨rx, _, evx, _⟩ := ax.ref
    obtain ⟨ry, _, evy, _⟩ := ay.ref
    subst evx evy
    refine ⟨_, rfl, rfl, _, rfl, iteN (fun z => nomatch z) ⟨_, rfl, rfl, _, rfl, iteN (fun z => nomatch z) ⟨_, rfl, rfl, _, rfl, iteN (fun z => nomatch z) ?_⟩⟩⟩
    refine ⟨_, rfl, _, _, _, _, rfl, rfl, SqL.of hL3, rfl, _, rfl, _, rfl, _, rfl, by show 5 ≤ sizeLine; decide, fun t ht => ?_⟩
    have st := Same.new (o := .tup [.str "unless", .str (sgn g), .ref rx, .ref ry, .int (k : Int)]) ht
    exact q _ _ ⟨t, _, _, rfl, upd_same, (ax.ts (TS.of s3)).ts (TS.of st), ay.ts (TS.of st)⟩ (S1.trans (s2.trans (s3.trans st)))
end
end K72

set_option Elab.async false
set_option linter.all false
set_option maxRecDepth 100000
set_option maxHeartbeats 4000000
/-! row_of -/
namespace K72
open PySem PySem.Spec PyProof.Rows L2 TL
/-! ### arguments of a row -/
inductive Ag where
  | b (i : Nat)
  | n (k : Nat)
  | w (e : Wo)
def Ag.txt : Ag → Str
  | .b i => letS i
  | .n k => numS k
  | .w e => e.txt
def Ag.kind : Ag → Nat
  | .b _ => 98
  | .n _ => 110
  | .w _ => 119
def Ag.ok : Ag → Prop
  | .b i => i < 8
  | .n k => k < 1000
  | .w e => e.ok
def AgAt (H : Hp) (v : V) : Ag → Prop
  | .b i => v = .str (letS i)
  | .n k => v = .int (k : Int)
  | .w e => WoAt H v e
theorem AgAt.ts {H H' : Hp} {v : V} {g : Ag} (s : TS H H') (h : AgAt H v g) : AgAt H' v g := by
  cases g with
  | b i => exact h
  | n k => exact h
  | w e => exact WoAt.ts s h
def Rw.head : Rw → Str
  | .load _ _ => "load"
  | .store _ _ => "store"
  | .swap _ _ _ => "swap"
  | .let_ _ _ => "let"
  | .say _ => "say"
  | .go _ => "go"
  | .unl _ _ _ _ => "unless"
def Rw.ags : Rw → List Ag
  | .load b c => [.b b, .n c]
  | .store c e => [.n c, .w e]
  | .swap b c e => [.b b, .n c, .w e]
  | .let_ b e => [.b b, .w e]
  | .say e => [.w e]
  | .go k => [.n k]
  | .unl _ _ _ _ => []
def Rw.form : Rw → Str
  | .load _ _ => "bn"
  | .store _ _ => "nw"
  | .swap _ _ _ => "bnw"
  | .let_ _ _ => "bw"
  | .say _ => "w"
  | .go _ => "n"
  | .unl _ _ _ _ => ""
def Rw.plain : Rw → Prop
  | .unl _ _ _ _ => False
  | _ => True
theorem Rw.words_ags {r : Rw} (h : r.plain) : r.words = r.head :: r.ags.map Ag.txt := by
  cases r <;> first | rfl | exact h.elim
theorem Rw.form_ags {r : Rw} (h : r.plain) : r.form.cps = (r.ags.map Ag.kind).toArray := by
  cases r with
  | load b c => show (Str.ofString "bn").cps = #[98, 110]; decide +kernel
  | store c e => show (Str.ofString "nw").cps = #[110, 119]; decide +kernel
  | swap b c e => show (Str.ofString "bnw").cps = #[98, 110, 119]; decide +kernel
  | let_ b e => show (Str.ofString "bw").cps = #[98, 119]; decide +kernel
  | say e => show (Str.ofString "w").cps = #[119]; decide +kernel
  | go k => show (Str.ofString "n").cps = #[110]; decide +kernel
  | unl q x y k => exact h.elim
theorem Rw.ags_ok {r : Rw} {cells rows : Nat} (h : r.ok cells rows) (hc : cells ≤ 20) (hr : rows ≤ 60) : ∀ g ∈ r.ags, g.ok := by
  cases r with
  | load b c =>
    intro g hg
    simp only [Rw.ags, List.mem_cons, List.not_mem_nil, or_false] at hg
    rcases hg with rfl | rfl
    · exact h.1
    · show c < 1000; have := h.2; omega
  | store c e =>
    intro g hg
    simp only [Rw.ags, List.mem_cons, List.not_mem_nil, or_false] at hg
    rcases hg with rfl | rfl
    · show c < 1000; have := h.1; omega
    · exact h.2
  | swap b c e =>
    intro g hg
    simp only [Rw.ags, List.mem_cons, List.not_mem_nil, or_false] at hg
    rcases hg with rfl | rfl | rfl
    · exact h.1
    · show c < 1000; have := h.2.1; omega
    · exact h.2.2
  | let_ b e =>
    intro g hg
    simp only [Rw.ags, List.mem_cons, List.not_mem_nil, or_false] at hg
    rcases hg with rfl | rfl
    · exact h.1
    · exact h.2
  | say e =>
    intro g hg
    simp only [Rw.ags, List.mem_cons, List.not_mem_nil, or_false] at hg
    rcases hg with rfl
    exact h
  | go k =>
    intro g hg
    simp only [Rw.ags, List.mem_cons, List.not_mem_nil, or_false] at hg
    rcases hg with rfl
    show k < 1000
    have h' : k ≤ rows := h
    omega
  | unl q x y k =>
    intro g hg
    cases hg
/-- arguments at values -/
def AgsAt (H : Hp) (vs : List V) (gs : List Ag) : Prop := vs.length = gs.length ∧ ∀ (i : Nat) v g, vs[i]? = some v → gs[i]? = some g → AgAt H v g
theorem AgsAt.nil (H : Hp) : AgsAt H [] [] := ⟨rfl, fun i v r h => by simp at h⟩
theorem AgsAt.ts {H H' : Hp} {vs : List V} {gs : List Ag} (s : TS H H') (h : AgsAt H vs gs) : AgsAt H' vs gs := ⟨h.1, fun i v r a b => (h.2 i v r a b).ts s⟩
theorem AgsAt.snoc {H : Hp} {vs : List V} {gs : List Ag} {v : V} {g : Ag} (h : AgsAt H vs gs) (hv : AgAt H v g) : AgsAt H (vs ++ [v]) (gs ++ [g]) := by
  refine ⟨by rw [List.length_append, List.length_append, h.1] <;> rfl, fun i u q a b => ?_⟩
  have hl := h.1
  by_cases hi : i < vs.length
  · rw [List.getElem?_append_left hi] at a
    rw [List.getElem?_append_left (by omega)] at b
    exact h.2 i u q a b
  · rw [List.getElem?_append_right (by omega)] at a
    rw [List.getElem?_append_right (by omega)] at b
    have e : i - vs.length = 0 := by
      cases hn : i - vs.length with
      | zero => rfl
      | succ n =>
        rw [hn] at a
        simp at a
    rw [e] at a
    rw [show i - gs.length = 0 by omega] at b
    simp only [List.getElem?_cons_zero, Option.some.injEq] at a b
    rw [← a, ← b]
    exact hv
/-- a row from its parts -/
theorem RwAt.of {H : Hp} {t : Addr} {vs : List V} {r : Rw} (hp : r.plain) (ht : H t = some (.tup (.str r.head :: vs))) (h : AgsAt H vs r.ags) : RwAt H (.ref t) r := by
  obtain ⟨hl, h⟩ := h
  cases r with
  | load b c =>
    match vs, hl with
    | [v0, v1], _ =>
      have h0 : v0 = .str (letS b) := h 0 v0 (.b b) rfl rfl
      have h1 : v1 = .int (c : Int) := h 1 v1 (.n c) rfl rfl
      subst h0 h1
      exact ⟨t, rfl, ht⟩
  | store c e =>
    match vs, hl with
    | [v0, v1], _ =>
      have h0 : v0 = .int (c : Int) := h 0 v0 (.n c) rfl rfl
      subst h0
      exact ⟨t, v1, rfl, ht, h 1 v1 (.w e) rfl rfl⟩
  | swap b c e =>
    match vs, hl with
    | [v0, v1, v2], _ =>
      have h0 : v0 = .str (letS b) := h 0 v0 (.b b) rfl rfl
      have h1 : v1 = .int (c : Int) := h 1 v1 (.n c) rfl rfl
      subst h0 h1
      exact ⟨t, v2, rfl, ht, h 2 v2 (.w e) rfl rfl⟩
  | let_ b e =>
    match vs, hl with
    | [v0, v1], _ =>
      have h0 : v0 = .str (letS b) := h 0 v0 (.b b) rfl rfl
      subst h0
      exact ⟨t, v1, rfl, ht, h 1 v1 (.w e) rfl rfl⟩
  | say e =>
    match vs, hl with
    | [v0], _ => exact ⟨t, v0, rfl, ht, h 0 v0 (.w e) rfl rfl⟩
  | go k =>
    match vs, hl with
    | [v0], _ =>
      have h0 : v0 = .int (k : Int) := h 0 v0 (.n k) rfl rfl
      subst h0
      exact ⟨t, rfl, ht⟩
  | unl q x y k => exact hp.elim
/-! ### the parts as data -/
def Pl.dat : Pl → PyData
  | .num n => .tuple [.str "number", .int (n : Int)]
  | .box i => .tuple [.str "box", .str (letS i)]
def Wo.dat : Wo → PyData
  | .pl p => p.dat
  | .add a b => .tuple [.str "plus", a.dat, b.dat]
  | .sub a b => .tuple [.str "minus", a.dat, b.dat]
def Ag.dat : Ag → PyData
  | .b i => .str (letS i)
  | .n k => .int (k : Int)
  | .w e => e.dat
section
variable {K : PySem.W.Frag} {H : Hp}
theorem Pl.dp {v : V} {p : Pl} (h : PlAt H v p) : Dp K H v p.dat := by
  obtain ⟨a, rfl, h⟩ := h
  cases p with
  | num n => exact .tup (SqT.of h) (.cons (.str _) (.cons (.int _) .nil))
  | box i => exact .tup (SqT.of h) (.cons (.str _) (.cons (.str _) .nil))
theorem Wo.dp {v : V} {e : Wo} (h : WoAt H v e) : Dp K H v e.dat := by
  cases e with
  | pl p => exact Pl.dp h
  | add a b =>
    obtain ⟨t, va, vb, rfl, h, ha, hb⟩ := h
    exact .tup (SqT.of h) (.cons (.str _) (.cons (Pl.dp ha) (.cons (Pl.dp hb) .nil)))
  | sub a b =>
    obtain ⟨t, va, vb, rfl, h, ha, hb⟩ := h
    exact .tup (SqT.of h) (.cons (.str _) (.cons (Pl.dp ha) (.cons (Pl.dp hb) .nil)))
theorem Ag.dp {v : V} {g : Ag} (h : AgAt H v g) : Dp K H v g.dat := by
  cases g with
  | b i =>
    have h : v = .str (letS i) := h
    rw [h]
    exact .str _
  | n k =>
    have h : v = .int (k : Int) := h
    rw [h]
    exact .int _
  | w e => exact Wo.dp h
theorem ags_dp : ∀ {vs : List V} {gs : List Ag}, AgsAt H vs gs → DpAll K H vs (gs.map Ag.dat)
  | [], [], _ => .nil
  | [], g :: gs, h => by cases h.1
  | v :: vs, [], h => by cases h.1
  | v :: vs, g :: gs, h => .cons (Ag.dp (h.2 0 v g rfl rfl)) (ags_dp ⟨Nat.succ.inj h.1, fun i u q a b => h.2 (i + 1) u q (by simpa using a) (by simpa using b)⟩)
end
theorem ok_str {x : Str} (h : x.cps.all (· < 0x110000) = true) : PyData.canLay0 (.str x) = true := h
theorem ok_let (i : Nat) (h : i < 8) : PyData.canLay0 (.str (letS i)) = true := by
  show (#[97 + i] : Array Nat).all (· < 0x110000) = true
  simp
  omega
theorem Pl.can {p : Pl} (h : p.ok) : p.dat.canLay0 = true := by
  cases p with
  | num n => show (PyData.canLay0 (.str "number") && (PyData.canLay0 (.int (n : Int)) && true)) = true; rw [show PyData.canLay0 (.str "number") = true by decide +kernel]; rfl
  | box i => show (PyData.canLay0 (.str "box") && (PyData.canLay0 (.str (letS i)) && true)) = true; rw [show PyData.canLay0 (.str "box") = true by decide +kernel, ok_let i h]; rfl
theorem Wo.can {e : Wo} (h : e.ok) : e.dat.canLay0 = true := by
  cases e with
  | pl p => exact Pl.can h
  | add a b => show (PyData.canLay0 (.str "plus") && (a.dat.canLay0 && (b.dat.canLay0 && true))) = true; rw [show PyData.canLay0 (.str "plus") = true by decide +kernel, Pl.can h.1, Pl.can h.2]; rfl
  | sub a b => show (PyData.canLay0 (.str "minus") && (a.dat.canLay0 && (b.dat.canLay0 && true))) = true; rw [show PyData.canLay0 (.str "minus") = true by decide +kernel, Pl.can h.1, Pl.can h.2]; rfl
theorem Ag.can {g : Ag} (h : g.ok) : g.dat.canLay0 = true := by
  cases g with
  | b i => exact ok_let i h
  | n k => rfl
  | w e => exact Wo.can h
theorem canAll : ∀ {l : List PyData}, (∀ d ∈ l, d.canLay0 = true) → PyData.canLayAll0 l = true
  | [], _ => rfl
  | d :: l, h => by
    show (d.canLay0 && PyData.canLayAll0 l) = true
    rw [h d (List.mem_cons_self ..), canAll fun x hx => h x (List.mem_cons_of_mem _ hx)]
    rfl
theorem Pl.dep (p : Pl) : p.dat.depth ≤ 1 := by cases p <;> (show max 0 (max 0 0) + 1 ≤ 1; decide)
theorem Wo.dep (e : Wo) : e.dat.depth ≤ 2 := by
  cases e with
  | pl p => have := Pl.dep p; show p.dat.depth ≤ 2; omega
  | add a b => have := Pl.dep a; have := Pl.dep b; show max 0 (max a.dat.depth (max b.dat.depth 0)) + 1 ≤ 2; omega
  | sub a b => have := Pl.dep a; have := Pl.dep b; show max 0 (max a.dat.depth (max b.dat.depth 0)) + 1 ≤ 2; omega
theorem Ag.dep (g : Ag) : g.dat.depth ≤ 2 := by
  cases g with
  | b i => exact Nat.zero_le _
  | n k => exact Nat.zero_le _
  | w e => exact Wo.dep e
theorem depAll {k : Nat} : ∀ {l : List PyData}, (∀ d ∈ l, d.depth ≤ k) → PyData.depthAll l ≤ k
  | [], _ => Nat.zero_le _
  | d :: l, h => by
    have h1 := h d (List.mem_cons_self ..)
    have h2 := depAll (l := l) fun x hx => h x (List.mem_cons_of_mem _ hx)
    show max d.depth (PyData.depthAll l) ≤ k
    omega
theorem ags_shaped {gs : List Ag} (h : ∀ g ∈ gs, g.ok) : SeqAt.shaped (.list (gs.map Ag.dat)) = true := by
  have h1 : PyData.canLayAll0 (gs.map Ag.dat) = true := canAll fun d hd => by
    obtain ⟨g, hg, rfl⟩ := List.mem_map.mp hd
    exact Ag.can (h g hg)
  have h2 : PyData.depthAll (gs.map Ag.dat) ≤ 2 := depAll fun d hd => by
    obtain ⟨g, hg, rfl⟩ := List.mem_map.mp hd
    exact Ag.dep g
  show (PyData.canLayAll0 (gs.map Ag.dat) && decide (PyData.depthAll (gs.map Ag.dat) + 1 ≤ 64)) = true
  rw [h1, decide_eq_true (by omega)]
  rfl
theorem Ag.not_none (g : Ag) : PyData.eqv g.dat .none = false := by
  cases g with
  | b i => rfl
  | n k => rfl
  | w e =>
    cases e with
    | pl p => cases p <;> rfl
    | add a b => rfl
    | sub a b => rfl
theorem no_none (gs : List Ag) : ((gs.map Ag.dat).any fun z => PyData.eqv z .none) = false := by
  rw [List.any_map]
  refine List.any_eq_false.mpr fun g _ => ?_
  show ¬ PyData.eqv g.dat .none = true
  rw [Ag.not_none]
  decide
end K72

set_option Elab.async false
set_option linter.all false
set_option maxRecDepth 100000
set_option maxHeartbeats 4000000
namespace K72
open PySem PySem.Spec PyProof.Rows L2 TL
/-- which promise goes with which reader -/
def rdS (fB fN fW : Addr) : Addr → Option Sp := fun f => if f = fB then some sp_box_of else if f = fN then some sp_number_of else if f = fW then some sp_worth_of else none
/-- the tables -/
structure Tabs (P : Program) (w : World) (K : PySem.W.Frag) (mg : Str → Option Value) (base : Heap) (aF aR fB fN fW : Addr) : Prop where
  gF : GV mg "FORMS" (.ref aF)
  gR : GV mg "READERS" (.ref aR)
  dF : ∀ r : Rw, r.plain → KDct K w aF r.head (.str r.form)
  dB : KDct K w aR ⟨#[98]⟩ (.ref fB)
  dN : KDct K w aR ⟨#[110]⟩ (.ref fN)
  dW : KDct K w aR ⟨#[119]⟩ (.ref fW)
  nBN : fN ≠ fB
  nBW : fW ≠ fB
  nNW : fW ≠ fN
  held : ∀ f sp, rdS fB fN fW f = some sp → Held P w K mg base 4 f sp
def sp_row_of : Sp := fun vs H Q _ => ∃ (a : Addr) (r : Rw) (cells rows : Nat), vs = [.ref a] ∧ H a = some (.lst (r.words.map V.str)) ∧ r.ok cells rows ∧ cells ≤ 20 ∧ rows ≤ 60 ∧ ∀ v H', RwAt H' v r → Same H H' → Q v H'
theorem head_ne {r : Rw} (h : r.plain) : r.head ≠ ("unless" : Str) := by
  cases r with
  | load b c => show ("load" : Str) ≠ "unless"; decide +kernel
  | store c e => show ("store" : Str) ≠ "unless"; decide +kernel
  | swap b c e => show ("swap" : Str) ≠ "unless"; decide +kernel
  | let_ b e => show ("let" : Str) ≠ "unless"; decide +kernel
  | say e => show ("say" : Str) ≠ "unless"; decide +kernel
  | go k => show ("go" : Str) ≠ "unless"; decide +kernel
  | unl q x y k => exact h.elim
theorem ags_few (r : Rw) : r.ags.length ≤ 3 := by cases r <;> simp [Rw.ags]
theorem at0 {v : V} {vs : List V} : atI (v :: vs) (0 : Int) = some v := atI_nat (j := 0) rfl
section
variable {P : Program} {w : World} {K : PySem.W.Frag} {mg : Str → Option Value} {base : Heap} {f : Addr} {fd : FuncData}
theorem sc_row_of : FnScope ["words", "kinds", "parts", "kind", "word", "reader"] ["words"] (defScope s_row_of) := ⟨rfl, rfl, rfl, by decide +kernel, rfl, by decide +kernel, by decide +kernel⟩
theorem ok_row_of {aF aR fB fN fW : Addr} (T : Txt K mg) (TT : Tabs P w K mg base aF aR fB fN fW) (F : FnP K "row_of" "row_of" s_row_of [] f fd) (h_unless_of : Def1 P w K mg base "unless_of" ["words"] [] 4 sp_unless_of) :
    FnOk P w K mg base CX0 5 f fd ["words"] sp_row_of := by
  refine fok F sc_row_of (fun vs H Q E h => ?_) (fun cdv A outer s H vs Q E hr h => ?_)
  · obtain ⟨_, _, _, _, rfl, _⟩ := h
    rfl
  · obtain ⟨a, r, cells, rows, rfl, hL, hok, hc, hrw, q⟩ := h
    have hr65 : (A.deeper (envOfC "row_of" (defScope s_row_of) s.heap.objs.size f cdv)).units + 65 < cLine := by have := hr.un; omega
    have hRd := TT.held
    refine ⟨_, (pss_cons (ps_if (pt_cmpR op_eq (pe_ix ix_list (pv 0) pe_int (fun _ _ => rfl)) pe_str (nomark _))
  (pss_one (ps_ret (pe_cl h_unless_of hr (pa_cons (pv 0) pa_nil))))
  pss_nil)
  (pss_cons (ps_try_thru0 (pss_one (ps_set (i := 1) sc_row_of.nd rfl (Or.inl rfl) (pe_ix ix_kdict (pe_gl TT.gF) (pe_ix ix_list (pv 0) pe_int (fun _ _ => rfl)) (fun _ _ => rfl)))))
  (pss_cons (ps_if (pt_cmpR op_ne (pe_callB call_len_seq (by rfl) T.n_len (by decide +kernel) (pa_cons (pv 0) pa_nil)) (pe_op op_add pe_int (pe_callB call_len_str (by rfl) T.n_len (by decide +kernel) (pa_cons (pv 1) pa_nil))) (nomark _))
  (pss_one (ps_ret pe_non))
  pss_nil)
  (pss_cons (ps_set (i := 2) sc_row_of.nd rfl (Or.inl rfl) (pe_lst pa_nil))
  (pss_cons (ps_for PassesOwn.never rfl (pi_zipX rfl T.n_zip (pa_cons (pv 1) (pa_cons (pe_slice sl_list (pv 0) (po_some pe_int) po_none) pa_nil))) (pg_tup (by rfl) (pgs_cons (pg_name (i := 3) sc_row_of.nd rfl (Or.inl rfl)) (pgs_cons (pg_name (i := 4) sc_row_of.nd rfl (Or.inl rfl)) pgs_nil)))
  (pss_cons (ps_set (i := 5) sc_row_of.nd rfl (Or.inl rfl) (pe_ix ix_kdict (pe_gl TT.gR) (pv 3) (fun _ _ => rfl)))
  (pss_one (ps_expr (pe_bm PySem.F.plainAttrs_list PySem.F.slot_list_append PySem.F.type_list_append mt_append (pv 2) (pa_cons (pe_callA (i := 5) hRd hr rfl (.inl rfl) (pa_cons (pv 4) pa_nil)) pa_nil))))))
  (pss_cons (ps_if (pt_cmpR (op_inD hr65) pe_non (pv 2) (by rfl))
  (pss_one (ps_ret pe_non))
  pss_nil)
  (pss_one (ps_ret (pe_op op_catA (pe_tup (pa_cons (pe_ix ix_list (pv 0) pe_int (fun _ _ => rfl)) pa_nil)) (pe_callTy call_tuple_of (by rfl) T.n_tuple (by decide +kernel) (pa_cons (pv 2) pa_nil))))))))))), ?_⟩
    by_cases hp : r.plain
    · have hw := Rw.words_ags hp
      rw [hw] at hL
      refine ⟨_, rfl, _, _, _, _, rfl, rfl, SqL.of hL, at0, rfl, _, rfl, iteN (fun e => head_ne hp (V.str.inj e)) ?_⟩
      refine ⟨_, rfl, _, _, _, _, rfl, rfl, SqL.of hL, at0, aF, _, _, rfl, rfl, TT.dF r hp, ?_⟩
      have hfl : r.form.length = r.ags.length := by
        show r.form.cps.size = _
        rw [Rw.form_ags hp]
        simp
      have hf3 := ags_few r
      refine ⟨_, rfl, _, _, rfl, .inl (SqL.of hL), _, rfl, _, rfl, szw (by omega), _, _, rfl, rfl, rfl, _, rfl, iteNS ?_ ?_⟩
      · rw [hfl]
        refine congrArg V.int ?_
        simp
        omega
      refine ⟨Nat.zero_le _, fun l hl => ?_⟩
      have S1 := Same.new (o := .lst []) hl
      have hL1 := S1 _ _ hL
      have nal : a ≠ l := ne_of_none hL hl
      refine ⟨_, rfl, _, rfl, _, rfl, a, _, rfl, SqL.of hL1, fun z hz => ?_⟩
      have ecut : cutV (V.str r.head :: (r.ags.map Ag.txt).map V.str) (some 1) none = (r.ags.map Ag.txt).map V.str := by
        unfold cutV
        have e1 : HT.sIx (V.str r.head :: (r.ags.map Ag.txt).map V.str).length 0 (some 1) = 1 := by
          simp [HT.sIx]
        have e2 : HT.sIx (V.str r.head :: (r.ags.map Ag.txt).map V.str).length (V.str r.head :: (r.ags.map Ag.txt).map V.str).length none = (V.str r.head :: (r.ags.map Ag.txt).map V.str).length := rfl
        rw [e1, e2]
        simp [List.take_of_length_le]
      have S2 := Same.new (H := upd H l (.lst [])) (o := .lst (cutV (V.str r.head :: (r.ags.map Ag.txt).map V.str) (some 1) none)) hz
      have hz2 : (upd (upd H l (.lst [])) z (.lst (cutV (V.str r.head :: (r.ags.map Ag.txt).map V.str) (some 1) none))) z = some (.lst ((r.ags.map Ag.txt).map V.str)) := by rw [upd_same, ecut]
      have hl2 := S2 _ _ (upd_same (H := H) (a := l) (o := .lst []))
      have hL2 := S2 _ _ hL1
      have nzl : z ≠ l := fun e => by
        rw [e] at hz
        rw [upd_same] at hz
        cases hz
      have S02 := S1.trans S2
      refine ⟨_, z, _, rfl, SqL.of hz2, for_it (walk_zipX (K := K) (b := z) (z := r.form) (ys := (r.ags.map Ag.txt).map V.str) (by rw [Rw.form_ags hp]; simp)) (fun i σ H' => ∃ (vs : List V) (v3 v4 v5 : Option V), σ = [some (.ref a), some (.str r.form), some (.ref l), v3, v4, v5] ∧
          (∀ p o, (upd (upd H l (.lst [])) z (.lst (cutV (V.str r.head :: (r.ags.map Ag.txt).map V.str) (some 1) none))) p = some o → p ≠ l → H' p = some o) ∧ H' l = some (.lst vs) ∧ AgsAt H' vs (r.ags.take i))
        ⟨[], none, none, none, rfl, fun p o e _ => e, hl2, AgsAt.nil _⟩ (fun i σ H' _ ⟨vs, v3, v4, v5, _, kp, _⟩ => SqL.of (kp _ _ hz2 nzl)) ?_ ?_⟩
      · rintro i y σ H' H'' hi ⟨vs, v3, v4, v5, rfl, kp, hl', hA⟩ ⟨t, y, c, rfl, ht, rfl, hcc, hy⟩
        have hi2 : i < r.ags.length := by simpa using hi
        obtain ⟨g, hg⟩ : ∃ g, r.ags[i]? = some g := ⟨_, List.getElem?_eq_getElem hi2⟩
        have ey : y = .str g.txt := by
          rw [List.getElem?_map, List.getElem?_map, hg] at hy
          exact (Option.some.inj hy).symm
        have ec : c = g.kind := by
          rw [Rw.form_ags hp, List.getElem?_toArray, List.getElem?_map, hg] at hcc
          exact (Option.some.inj hcc).symm
        subst ey ec
        have gok : g.ok := Rw.ags_ok hok hc hrw g (List.mem_of_getElem? hg)
        have ST := Same.new (o := .tup [.str ⟨#[g.kind]⟩, .str g.txt]) ht
        have hl'' := ST _ _ hl'
        refine ⟨t, _, rfl, SqT.of upd_same, rfl, _, _, rfl, _, _, rfl, rfl, ?_⟩
        have htake : r.ags.take (i + 1) = r.ags.take i ++ [g] := by rw [List.take_succ, hg] <;> rfl
        have hvl : vs.length < sizeLine := by
          rw [hA.1, List.length_take]
          exact Nat.lt_of_le_of_lt (by omega : _ ≤ 3) (by decide)
        have nlt : l ≠ t := ne_of_none hl' ht
        -- what follows the reader's answer
        have fin : ∀ (v : V) (H3 : Hp), AgAt H3 v g → Same (upd H' t (.tup [.str ⟨#[g.kind]⟩, .str g.txt])) H3 → ∀ v3 v4 v5 : Option V, ∃ l' xs', (V.ref l = V.ref l' ∧ H3 l' = some (.lst xs') ∧ xs'.length < sizeLine ∧
            ∃ (vs : List V) (v3' v4' v5' : Option V), [some (V.ref a), some (.str r.form), some (.ref l), v3, v4, v5] = [some (.ref a), some (.str r.form), some (.ref l), v3', v4', v5'] ∧
          (∀ p o, (upd (upd H l (.lst [])) z (.lst (cutV (V.str r.head :: (r.ags.map Ag.txt).map V.str) (some 1) none))) p = some o → p ≠ l → (upd H3 l' (.lst (xs' ++ [v]))) p = some o) ∧ (upd H3 l' (.lst (xs' ++ [v]))) l = some (.lst vs) ∧ AgsAt (upd H3 l' (.lst (xs' ++ [v]))) vs (r.ags.take (i + 1))) := by
          intro v H3 hv s3 v3 v4 v5
          have hl3 := s3 _ _ hl''
          have tsl : TS H3 (upd H3 l (.lst (vs ++ [v]))) := TS.upd hl3 (fun xs e => by cases e)
          refine ⟨l, vs, rfl, hl3, hvl, vs ++ [v], v3, v4, v5, rfl, fun p o e n => ?_, upd_same, ?_⟩
          · rw [upd_ne n]
            exact s3 _ _ (ST _ _ (kp p o e n))
          · rw [htake]
            exact ((hA.ts ((TS.of ST).trans (TS.of s3))).ts tsl).snoc (hv.ts tsl)
        cases g with
        | b k =>
          refine ⟨_, rfl, _, _, _, rfl, rfl, TT.dB, ?_⟩
          refine ⟨_, rfl, .inl ⟨rfl, _, SqL.of hl''⟩, fB, sp_box_of, rfl, if_pos rfl, _, rfl, k, rfl, gok, ?_⟩
          obtain ⟨l', xs', e1, e2, e3, e4⟩ := fin (.str (letS k)) _ rfl (Same.refl _) _ _ _
          exact ⟨l', xs', _, e1, rfl, e2, e3, e4⟩
        | n k =>
          refine ⟨_, rfl, _, _, _, rfl, rfl, TT.dN, ?_⟩
          refine ⟨_, rfl, .inl ⟨rfl, _, SqL.of hl''⟩, fN, sp_number_of, rfl, (by unfold rdS; rw [if_neg TT.nBN, if_pos rfl]), _, rfl, _, rfl, .inl ⟨k, gok, rfl, ?_⟩⟩
          obtain ⟨l', xs', e1, e2, e3, e4⟩ := fin (.int (k : Int)) _ rfl (Same.refl _) _ _ _
          exact ⟨l', xs', _, e1, rfl, e2, e3, e4⟩
        | w e =>
          refine ⟨_, rfl, _, _, _, rfl, rfl, TT.dW, ?_⟩
          refine ⟨_, rfl, .inl ⟨rfl, _, SqL.of hl''⟩, fW, sp_worth_of, rfl, (by unfold rdS; rw [if_neg TT.nBW, if_neg TT.nNW, if_pos rfl]), _, rfl, e, rfl, gok, fun v H3 hv s3 => ?_⟩
          obtain ⟨l', xs', e1, e2, e3, e4⟩ := fin v H3 hv s3 _ _ _
          exact ⟨l', xs', _, e1, rfl, e2, e3, e4⟩
      · rintro σ H' ⟨vs, v3, v4, v5, rfl, kp, hl', hA⟩
        have hlen : ((r.ags.map Ag.txt).map V.str).length = r.ags.length := by simp
        rw [hlen, List.take_length] at hA
        have hL' := kp _ _ hL2 nal
        have SH : Same H H' := fun p o e => kp p o (S02 _ _ e) (ne_of_none e hl)
        have gall : ∀ g ∈ r.ags, g.ok := Rw.ags_ok hok hc hrw
        refine ⟨_, rfl, .none, r.ags.map Ag.dat, .non, .lst (SqL.of hl') (ags_dp hA), rfl, ags_shaped gall, _, rfl, ?_⟩
        rw [no_none]
        refine iteF ?_
        have hv3 : vs.length ≤ 3 := by rw [hA.1]; exact hf3
        refine ⟨_, rfl, _, _, _, _, rfl, rfl, SqL.of hL', at0, by show 1 ≤ sizeLine; decide, fun t1 ht1 => ?_⟩
        have s1 := Same.new (o := .tup [.str r.head]) ht1
        refine ⟨_, rfl, l, vs, rfl, .inl ⟨SqL.of (s1 _ _ hl'), fun t2 ht2 => ?_⟩⟩
        have s2 := Same.new (o := .tup vs) ht2
        refine ⟨t1, t2, [.str r.head], vs, rfl, rfl, SqT.of (s2 _ _ upd_same), SqT.of upd_same, szw (by show 1 + vs.length ≤ 100000; omega), fun e => (by cases e), fun _ e => ?_, fun _ _ t3 ht3 => ?_⟩
        · exfalso
          have h0 := hA.1
          rw [e] at h0
          revert h0 hp
          cases r <;> intro hp h0 <;> first | exact hp.elim | exact absurd h0 (by show ¬ 0 = _; decide) | (simp [Rw.ags] at h0)
        · have s3 := Same.new (o := .tup ([.str r.head] ++ vs)) ht3
          exact q _ _ (RwAt.of hp upd_same (hA.ts (TS.of (s1.trans (s2.trans s3))))) (SH.trans (s1.trans (s2.trans s3)))
    · cases r with
      | unl g x y k =>
        refine ⟨_, rfl, _, _, _, _, rfl, rfl, SqL.of hL, rfl, rfl, _, rfl, iteY rfl ?_⟩
        exact ⟨_, rfl, a, g, x, y, k, rfl, hL, hok.1, hok.2.1, by have := hok.2.2; omega, q⟩
      | _ => exact absurd trivial hp
end
end K72

set_option Elab.async false
set_option linter.all false
set_option maxRecDepth 100000
set_option maxHeartbeats 4000000
/-! cell_of, cells_of, take_row, look_at_targets, read -/
namespace K72
open PySem PySem.Spec PyProof.Rows L2 TL
def Rw.cell : Rw → Option Nat
  | .load _ c => some c
  | .store c _ => some c
  | .swap _ c _ => some c
  | _ => none
def oInt : Option Nat → V
  | some c => .int (c : Int)
  | none => .non
theorem Rw.cell_ok {r : Rw} {cells rows c : Nat} (h : r.ok cells rows) (e : r.cell = some c) : c < cells := by
  cases r <;> simp only [Rw.cell, Option.some.injEq, reduceCtorEq] at e <;> subst e <;> simp only [Rw.ok] at h <;> omega
def sp_cell_of : Sp := fun vs H Q _ => ∃ (v : V) (r : Rw), vs = [v] ∧ RwAt H v r ∧ Q (oInt r.cell) H
def sp_cells_of : Sp := fun vs H Q _ => ∃ n : Nat, vs = [.str ("cells " ++ numS n)] ∧ 1 ≤ n ∧ n ≤ 20 ∧ ∀ H', Same H H' → Q (.int (n : Int)) H'
def sp_take_row : Sp := fun vs H Q _ => ∃ (h wl : Addr) (cells at_ : Nat) (r : Rw) (ls : List V) (l : Addr) (xs : List V) (rows : Nat), vs = [.ref h, .ref wl, .int (cells : Int), .int (at_ : Int)] ∧
  H h = some (.lst (ls ++ [.ref l])) ∧ H wl = some (.lst (r.words.map V.str)) ∧ H l = some (.lst xs) ∧ xs.length < 60 ∧ cells ≤ 20 ∧ rows ≤ 60 ∧ r.ok cells rows ∧
  ∀ v H', RwAt H' v r → Kp1 l H H' → H' l = some (.lst (xs ++ [v])) → Q .non H'
def sp_look_at_targets : Sp := fun vs H Q _ => ∃ (h : Addr) (ls : List Addr) (hs : List (List Rw)), vs = [.ref h] ∧ HsAt H h ls hs ∧ hs.length ≤ 8 ∧ (∀ g ∈ hs, g.length ≤ 60 ∧ ∀ r ∈ g, r.ok 20 g.length) ∧ ∀ H', Same H H' → Q .non H'
section
variable {P : Program} {w : World} {K : PySem.W.Frag} {mg : Str → Option Value} {base : Heap} {f : Addr} {fd : FuncData}
theorem sc_cell_of : FnScope ["row"] ["row"] (defScope s_cell_of) := ⟨rfl, rfl, rfl, by decide +kernel, rfl, by decide +kernel, by decide +kernel⟩
theorem ok_cell_of (T : Txt K mg) (F : FnP K "cell_of" "cell_of" s_cell_of [] f fd) : FnOk P w K mg base CX0 1 f fd ["row"] sp_cell_of := by
  refine fok F sc_cell_of (fun vs H Q E h => ?_) (fun cdv A outer s H vs Q E hr h => ?_)
  · obtain ⟨_, _, rfl, _⟩ := h
    rfl
  · obtain ⟨v, r, rfl, hR, q⟩ := h
    refine ⟨_, (pss_cons (ps_if (PW.pt (pw_or (pt_cmpR op_eq (pe_ix ix_tup (pv 0) pe_int (fun _ _ => rfl)) pe_str (nomark _)) (pw_or1 (pt_cmpR op_eq (pe_ix ix_tup (pv 0) pe_int (fun _ _ => rfl)) pe_str (nomark _)))))
  (pss_one (ps_ret (pe_ix ix_tup (pv 0) pe_int (fun _ _ => rfl))))
  pss_nil)
  (pss_cons (ps_if (pt_cmpR op_eq (pe_ix ix_tup (pv 0) pe_int (fun _ _ => rfl)) pe_str (nomark _))
  (pss_one (ps_ret (pe_ix ix_tup (pv 0) pe_int (fun _ _ => rfl))))
  pss_nil)
  (pss_one (ps_ret pe_non)))), ?_⟩
    cases r with
    | load b c =>
      obtain ⟨t, rfl, ht⟩ := hR
      exact ⟨_, rfl, _, _, _, _, rfl, rfl, SqT.of ht, rfl, rfl, _, rfl, iteY rfl ⟨_, rfl, _, _, _, _, rfl, rfl, SqT.of ht, rfl, q⟩⟩
    | swap b c e =>
      obtain ⟨t, ve, rfl, ht, hw⟩ := hR
      exact ⟨_, rfl, _, _, _, _, rfl, rfl, SqT.of ht, rfl, rfl, _, rfl, iteN (by decide +kernel) ⟨_, rfl, _, _, _, _, rfl, rfl, SqT.of ht, rfl, rfl, _, rfl, iteY rfl ⟨_, rfl, _, _, _, _, rfl, rfl, SqT.of ht, rfl, q⟩⟩⟩
    | store c e =>
      obtain ⟨t, ve, rfl, ht, hw⟩ := hR
      exact ⟨_, rfl, _, _, _, _, rfl, rfl, SqT.of ht, rfl, rfl, _, rfl, iteN (by decide +kernel) ⟨_, rfl, _, _, _, _, rfl, rfl, SqT.of ht, rfl, rfl, _, rfl, iteN (by decide +kernel)
        ⟨_, rfl, _, _, _, _, rfl, rfl, SqT.of ht, rfl, rfl, _, rfl, iteY rfl ⟨_, rfl, _, _, _, _, rfl, rfl, SqT.of ht, rfl, q⟩⟩⟩⟩
    | let_ b e =>
      obtain ⟨t, ve, rfl, ht, hw⟩ := hR
      exact ⟨_, rfl, _, _, _, _, rfl, rfl, SqT.of ht, rfl, rfl, _, rfl, iteN (by decide +kernel) ⟨_, rfl, _, _, _, _, rfl, rfl, SqT.of ht, rfl, rfl, _, rfl, iteN (by decide +kernel)
        ⟨_, rfl, _, _, _, _, rfl, rfl, SqT.of ht, rfl, rfl, _, rfl, iteN (by decide +kernel) q⟩⟩⟩
    | say e =>
      obtain ⟨t, ve, rfl, ht, hw⟩ := hR
      exact ⟨_, rfl, _, _, _, _, rfl, rfl, SqT.of ht, rfl, rfl, _, rfl, iteN (by decide +kernel) ⟨_, rfl, _, _, _, _, rfl, rfl, SqT.of ht, rfl, rfl, _, rfl, iteN (by decide +kernel)
        ⟨_, rfl, _, _, _, _, rfl, rfl, SqT.of ht, rfl, rfl, _, rfl, iteN (by decide +kernel) q⟩⟩⟩
    | go k =>
      obtain ⟨t, rfl, ht⟩ := hR
      exact ⟨_, rfl, _, _, _, _, rfl, rfl, SqT.of ht, rfl, rfl, _, rfl, iteN (by decide +kernel) ⟨_, rfl, _, _, _, _, rfl, rfl, SqT.of ht, rfl, rfl, _, rfl, iteN (by decide +kernel)
        ⟨_, rfl, _, _, _, _, rfl, rfl, SqT.of ht, rfl, rfl, _, rfl, iteN (by decide +kernel) q⟩⟩⟩
    | unl g x y k =>
      obtain ⟨t, vx, vy, rfl, ht, hw⟩ := hR
      exact ⟨_, rfl, _, _, _, _, rfl, rfl, SqT.of ht, rfl, rfl, _, rfl, iteN (by decide +kernel) ⟨_, rfl, _, _, _, _, rfl, rfl, SqT.of ht, rfl, rfl, _, rfl, iteN (by decide +kernel)
        ⟨_, rfl, _, _, _, _, rfl, rfl, SqT.of ht, rfl, rfl, _, rfl, iteN (by decide +kernel) q⟩⟩⟩
theorem split_cells (n : Nat) : Txt.split ("cells " ++ numS n) " " = [("cells" : Str), numS n] := by
  have e : ("cells " : Str) ++ numS n = Txt.join " " [("cells" : Str), numS n] := by
    rw [txt2]
    refine congrArg (· ++ numS n) ?_
    decide +kernel
  rw [e]
  refine split_join tl_blank (by decide +kernel) (by simp) fun x hx => ?_
  simp only [List.mem_cons, List.not_mem_nil, or_false] at hx
  rcases hx with rfl | rfl
  · decide +kernel
  · exact (signs_num n).word.1
theorem sc_cells_of : FnScope ["row", "words", "many"] ["row"] (defScope s_cells_of) := ⟨rfl, rfl, rfl, by decide +kernel, rfl, by decide +kernel, by decide +kernel⟩
theorem ok_cells_of (T : Txt K mg) (F : FnP K "cells_of" "cells_of" s_cells_of [] f fd) (h_number_of : Def1 P w K mg base "number_of" ["word"] [] 1 sp_number_of) : FnOk P w K mg base CX0 2 f fd ["row"] sp_cells_of := by
  refine fok F sc_cells_of (fun vs H Q E h => ?_) (fun cdv A outer s H vs Q E hr h => ?_)
  · obtain ⟨_, rfl, _⟩ := h
    rfl
  · obtain ⟨n, rfl, h1, h2, q⟩ := h
    refine ⟨_, (pss_cons (ps_set (i := 1) sc_cells_of.nd rfl (Or.inl rfl) (pe_split (pv 0) pe_str))
  (pss_cons (ps_if (PW.pt (pw_or (pt_cmpR op_ne (pe_callB call_len_seq (by rfl) T.n_len (by decide +kernel) (pa_cons (pv 1) pa_nil)) pe_int (nomark _)) (pw_or (pt_cmpR op_ne (pe_ix ix_list (pv 1) pe_int (fun _ _ => rfl)) pe_str (nomark _)) (pw_or1 (pt_cmpR op_isN (pe_cl h_number_of hr (pa_cons (pe_ix ix_list (pv 1) pe_int (fun _ _ => rfl)) pa_nil)) pe_non (nomark _))))))
  (pss_one ps_never)
  pss_nil)
  (pss_cons (ps_set (i := 2) sc_cells_of.nd rfl (Or.inl rfl) (pe_cl h_number_of hr (pa_cons (pe_ix ix_list (pv 1) pe_int (fun _ _ => rfl)) pa_nil)))
  (pss_cons (ps_if (PW.pt (pw_or (pt_cmpR op_lt (pv 2) pe_int (nomark _)) (pw_or1 (pt_cmpR op_gt (pv 2) (pe_gl T.g_MOST_CELLS) (nomark _)))))
  (pss_one ps_never)
  pss_nil)
  (pss_one (ps_ret (pv 2))))))), ?_⟩
    have l6 : ("cells " : Str).length = 6 := by decide +kernel
    have ln : (numS n).length ≤ 3 := len_numS (by omega)
    refine ⟨_, rfl, ⟨_, rfl⟩, _, _, rfl, rfl, by decide +kernel, szw (by rw [len_app, l6]; omega), ?_⟩
    rw [split_cells]
    refine fun p hp => ?_
    have S1 := Same.new (o := .lst ([("cells" : Str), numS n].map V.str)) hp
    have hq : SqL K (upd H p (.lst ([("cells" : Str), numS n].map V.str))) p [.str "cells", .str (numS n)] := SqL.of upd_same
    refine ⟨_, rfl, _, _, rfl, .inl hq, rfl, _, rfl, iteNS rfl ?_⟩
    refine ⟨_, rfl, _, _, _, _, rfl, rfl, hq, rfl, rfl, _, rfl, iteNS rfl ?_⟩
    refine ⟨_, rfl, _, _, _, _, rfl, rfl, hq, rfl, _, rfl, .inl ⟨n, by omega, rfl, rfl, _, rfl, iteN (fun z => nomatch z) ?_⟩⟩
    refine ⟨_, rfl, _, _, _, _, rfl, rfl, hq, rfl, _, rfl, .inl ⟨n, by omega, rfl, ?_⟩⟩
    exact ⟨_, rfl, _, _, rfl, rfl, _, rfl, iteN (by omega) ⟨_, rfl, _, _, rfl, rfl, _, rfl, iteN (by omega) ⟨_, rfl, q _ S1⟩⟩⟩
theorem sc_take_row : FnScope ["hands", "words", "many", "at", "made", "cell"] ["hands", "words", "many", "at"] (defScope s_take_row) := ⟨rfl, rfl, rfl, by decide +kernel, rfl, by decide +kernel, by decide +kernel⟩
theorem ok_take_row (T : Txt K mg) (F : FnP K "take_row" "take_row" s_take_row [] f fd) (h_row_of : Def1 P w K mg base "row_of" ["words"] [] 5 sp_row_of) (h_cell_of : Def1 P w K mg base "cell_of" ["row"] [] 1 sp_cell_of) :
    FnOk P w K mg base CX0 6 f fd ["hands", "words", "many", "at"] sp_take_row := by
  refine fok F sc_take_row (fun vs H Q E h => ?_) (fun cdv A outer s H vs Q E hr h => ?_)
  · obtain ⟨_, _, _, _, _, _, _, _, _, rfl, _⟩ := h
    rfl
  · obtain ⟨h, wl, cells, at_, r, ls, l, xs, rows, rfl, hH, hW, hL, h60, hc, hrw, hok, q⟩ := h
    have hu : (A.deeper (envOfC "take_row" (defScope s_take_row) s.heap.objs.size f cdv)).units < cLine := by have := hr.un; omega
    refine ⟨_, (pss_cons (ps_set (i := 4) sc_take_row.nd rfl (Or.inl rfl) (pe_cl h_row_of hr (pa_cons (pv 1) pa_nil)))
  (pss_cons (ps_if (PW.pt (pw_or (pt_cmpR op_isN (pv 4) pe_non (nomark _)) (pw_or1 (pt_cmpR (op_eqNil hu) (pv 0) (pe_lst pa_nil) (nomark _)))))
  (pss_one ps_never)
  pss_nil)
  (pss_cons (ps_set (i := 5) sc_take_row.nd rfl (Or.inl rfl) (pe_cl h_cell_of hr (pa_cons (pv 4) pa_nil)))
  (pss_cons (ps_if (PW.pt (pw_and (pt_cmpR op_notN (pv 5) pe_non (nomark _)) (pw_and1 (pt_cmpR op_ge (pv 5) (pv 2) (nomark _)))))
  (pss_one ps_never)
  pss_nil)
  (pss_cons (ps_if (pt_cmpR op_eq (pe_callB call_len_seq (by rfl) T.n_len (by decide +kernel) (pa_cons (pe_ix ix_list (pv 0) (pe_un un_neg pe_int) (fun _ _ => rfl)) pa_nil)) (pe_gl T.g_MOST_ROWS) (nomark _))
  (pss_one ps_never)
  pss_nil)
  (pss_one (ps_expr (pe_bm PySem.F.plainAttrs_list PySem.F.slot_list_append PySem.F.type_list_append mt_append (pe_ix ix_list (pv 0) (pe_un un_neg pe_int) (fun _ _ => rfl)) (pa_cons (pv 4) pa_nil))))))))), ?_⟩
    refine ⟨_, rfl, wl, r, cells, rows, rfl, hW, hok, hc, hrw, fun v H1 hv S1 => ?_⟩
    obtain ⟨t, txs, rfl, htt⟩ := hv.ref
    refine ⟨_, rfl, rfl, _, rfl, iteN (fun z => nomatch z) ?_⟩
    have hH1 := S1 _ _ hH
    refine ⟨_, rfl, by show 0 ≤ sizeLine; decide, fun e he => ?_⟩
    have S2 := Same.new (o := .lst []) he
    have hH2 := S2 _ _ hH1
    have hL2 := S2 _ _ (S1 _ _ hL)
    have hv2 := hv.ts (TS.of S2)
    refine ⟨h, e, ls ++ [.ref l], rfl, rfl, SqL.of hH2, SqL.of upd_same, _, rfl, ?_⟩
    have hne : (ls ++ [V.ref l]).isEmpty = false := by cases ls <;> rfl
    rw [hne]
    refine iteF ?_
    refine ⟨_, rfl, _, r, rfl, hv2, ?_⟩
    rcases ec : r.cell with _ | c
    case' none => refine ⟨_, rfl, rfl, _, rfl, iteNS rfl ?_⟩
    case' some => refine ⟨_, rfl, rfl, _, rfl, iteNY (fun z => nomatch z) ⟨_, rfl, _, rfl, _, _, rfl, rfl, _, rfl, iteN (by have := Rw.cell_ok hok ec; omega) ?_⟩⟩
    all_goals
      refine ⟨_, rfl, _, rfl, _, _, _, _, rfl, rfl, SqL.of hH2, atI_last _ _, l, xs, rfl, .inl (SqL.of hL2), rfl, _, rfl, iteN (fun z => by have := V.int.inj z; omega) ?_⟩
      refine ⟨_, rfl, _, rfl, _, _, _, _, rfl, rfl, SqL.of hH2, atI_last _ _, .inl ⟨rfl, _, SqL.of hL2⟩, _, rfl, l, _, _, rfl, rfl, hL2, Nat.lt_of_lt_of_le h60 (by decide), ?_⟩
      have nl : e ≠ l := fun z => by
        rw [z] at he
        rw [S1 _ _ hL] at he
        cases he
      refine q (.ref t) _ (hv2.ts (TS.upd hL2 (fun xs e => by cases e))) (fun p o e n => ?_) upd_same
      rw [upd_ne n]
      exact S2 _ _ (S1 _ _ e)
end
end K72

set_option Elab.async false
set_option linter.all false
set_option maxRecDepth 100000
set_option maxHeartbeats 4000000
/-! look_at_targets, read -/
namespace K72
open PySem PySem.Spec PyProof.Rows L2 TL
def Rw.jump : Rw → Option Nat
  | .go k => some k
  | .unl _ _ _ k => some k
  | _ => none
def Rw.name : Rw → Str
  | .unl _ _ _ _ => "unless"
  | r => r.head
theorem RwAt.name {H : Hp} {v : V} {r : Rw} (h : RwAt H v r) : ∃ t xs, v = .ref t ∧ H t = some (.tup (.str r.name :: xs)) ∧ ∀ k, r.jump = some k → ∃ ys, (V.str r.name :: xs) = ys ++ [.int (k : Int)] := by
  cases r with
  | load b c => obtain ⟨t, e, h⟩ := h; exact ⟨t, _, e, h, fun k e => nomatch e⟩
  | store c e => obtain ⟨t, ve, q, h, hw⟩ := h; exact ⟨t, _, q, h, fun k e => nomatch e⟩
  | swap b c e => obtain ⟨t, ve, q, h, hw⟩ := h; exact ⟨t, _, q, h, fun k e => nomatch e⟩
  | let_ b e => obtain ⟨t, ve, q, h, hw⟩ := h; exact ⟨t, _, q, h, fun k e => nomatch e⟩
  | say e => obtain ⟨t, ve, q, h, hw⟩ := h; exact ⟨t, _, q, h, fun k e => nomatch e⟩
  | go k =>
    obtain ⟨t, e, h⟩ := h
    exact ⟨t, _, e, h, fun k e => by cases e; exact ⟨[.str "go"], rfl⟩⟩
  | unl q x y k =>
    obtain ⟨t, vx, vy, e, h, hx, hy⟩ := h
    exact ⟨t, _, e, h, fun k e => by cases e; exact ⟨[.str "unless", .str (sgn q), vx, vy], rfl⟩⟩
theorem Rw.jumps (r : Rw) : inV (V.str r.name) [.str "go", .str "unless"] = r.jump.isSome := by
  have a : ∀ x ∈ ([("load", false), ("store", false), ("swap", false), ("let", false), ("say", false), ("go", true), ("unless", true)] : List (Str × Bool)), inV (V.str x.1) [.str "go", .str "unless"] = x.2 := by decide +kernel
  cases r with
  | load b c => exact a ("load", false) (by simp)
  | store c e => exact a ("store", false) (by simp)
  | swap b c e => exact a ("swap", false) (by simp)
  | let_ b e => exact a ("let", false) (by simp)
  | say e => exact a ("say", false) (by simp)
  | go k => exact a ("go", true) (by simp)
  | unl q x y k => exact a ("unless", true) (by simp)
theorem Rw.jump_ok {r : Rw} {cells rows k : Nat} (h : r.ok cells rows) (e : r.jump = some k) : k ≤ rows := by
  cases r <;> simp only [Rw.jump, Option.some.injEq, reduceCtorEq] at e <;> subst e <;> simp only [Rw.ok] at h <;> omega
theorem ls_at {ls : List Addr} {i : Nat} {x : V} (e : (ls.map V.ref)[i]? = some x) : ∃ l, ls[i]? = some l ∧ x = .ref l := by
  rw [List.getElem?_map] at e
  cases h : ls[i]? with
  | none => rw [h] at e; cases e
  | some l => rw [h] at e; exact ⟨l, rfl, (Option.some.inj e).symm⟩
theorem some_of_lt {α β : Type} {xs : List α} {ys : List β} {i : Nat} {x : α} (e : xs[i]? = some x) (h : xs.length = ys.length) : ∃ y, ys[i]? = some y :=
  ⟨_, List.getElem?_eq_getElem (by have := (List.getElem?_eq_some_iff.mp e).1; omega)⟩
section
variable {P : Program} {w : World} {K : PySem.W.Frag} {mg : Str → Option Value} {base : Heap} {f : Addr} {fd : FuncData}
theorem sc_look_at_targets : FnScope ["hands", "at", "hand", "row"] ["hands"] (defScope s_look_at_targets) := ⟨rfl, rfl, rfl, by decide +kernel, rfl, by decide +kernel, by decide +kernel⟩
theorem ok_look_at_targets (T : Txt K mg) (F : FnP K "look_at_targets" "look_at_targets" s_look_at_targets [] f fd) : FnOk P w K mg base CX0 1 f fd ["hands"] sp_look_at_targets := by
  refine fok F sc_look_at_targets (fun vs H Q E h => ?_) (fun cdv A outer s H vs Q E hr h => ?_)
  · obtain ⟨_, _, _, rfl, _⟩ := h
    rfl
  · obtain ⟨h, ls, hs, rfl, hA, h8, hall, q⟩ := h
    refine ⟨_, (pss_cons (ps_set (i := 1) sc_look_at_targets.nd rfl (Or.inl rfl) pe_int)
  (pss_one (ps_for PassesOwn.never rfl (pi_list (pv 0)) (pg_name (i := 2) sc_look_at_targets.nd rfl (Or.inl rfl))
  (pss_cons (ps_aug (i := 1) sc_look_at_targets.nd rfl (Or.inl rfl) pe_int ip_add)
  (pss_one (ps_for PassesOwn.never rfl (pi_list (pv 2)) (pg_name (i := 3) sc_look_at_targets.nd rfl (Or.inl rfl))
  (pss_cons (ps_aug (i := 1) sc_look_at_targets.nd rfl (Or.inl rfl) pe_int ip_add)
  (pss_one (ps_if (PW.pt (pw_and (pt_cmpR op_in_seq (pe_ix ix_tup (pv 3) pe_int (fun _ _ => rfl)) (pe_tup (pa_cons pe_str (pa_cons pe_str pa_nil))) (by rfl)) (pw_and1 (pt_cmpR op_gt (pe_ix ix_tup (pv 3) (pe_un un_neg pe_int) (fun _ _ => rfl)) (pe_callB call_len_seq (by rfl) T.n_len (by decide +kernel) (pa_cons (pv 2) pa_nil)) (nomark _)))))
  (pss_one ps_never)
  pss_nil))))))))), ?_⟩
    refine ⟨_, rfl, h, rfl, ⟨_, SqL.of hA.top⟩, for_it (walk_list (xs := ls.map V.ref)) (fun i σ H' => ∃ (n : Int) (v2 v3 : Option V), σ = [some (.ref h), some (.int n), v2, v3] ∧ Same H H') ⟨1, none, none, rfl, Same.refl _⟩ (fun i σ H' _ ⟨n, v2, v3, _, S⟩ => SqL.of (S _ _ hA.top)) ?_ ?_⟩
    · rintro i x σ H1 H2 hi ⟨n, v2, v3, rfl, S⟩ ⟨rfl, hx⟩
      obtain ⟨l, hl, rfl⟩ := ls_at hx
      obtain ⟨rs, hrs⟩ := some_of_lt hl hA.len
      obtain ⟨vs, hL, hR⟩ := hA.rows i l rs hl hrs
      obtain ⟨hr60, hrok⟩ := hall rs (List.mem_of_getElem? hrs)
      refine ⟨_, rfl, _, _, rfl, rfl, ?_⟩
      refine ⟨_, rfl, l, rfl, ⟨_, SqL.of (S _ _ hL)⟩, for_it (walk_list (xs := vs)) (fun i σ H' => ∃ (n : Int) (v3 : Option V), σ = [some (.ref h), some (.int n), some (.ref l), v3] ∧ Same H H') ⟨_, v3, rfl, S⟩ (fun i σ H' _ ⟨n, v3, _, S⟩ => SqL.of (S _ _ hL)) ?_ ?_⟩
      · rintro j x σ H3 H4 hj ⟨n, v3, rfl, S3⟩ ⟨rfl, hx⟩
        obtain ⟨r, hr⟩ := some_of_lt hx hR.1
        have hv := (hR.2 j x r hx hr).ts (TS.of S3)
        obtain ⟨t, xs, rfl, ht, hj⟩ := hv.name
        refine ⟨_, rfl, _, _, rfl, rfl, ?_⟩
        refine ⟨_, rfl, _, _, _, _, rfl, rfl, SqT.of ht, at0, by show 2 ≤ sizeLine; decide, fun p hp => ?_⟩
        have S1 := Same.new (o := .tup [.str "go", .str "unless"]) hp
        refine ⟨p, _, rfl, .inr (SqT.of upd_same), rfl, rfl, _, rfl, ?_⟩
        rw [if_neg (fun e => nomatch e), Rw.jumps r]
        cases ej : r.jump with
        | none =>
          refine iteF ?_
          exact ⟨_, _, rfl, S3.trans S1⟩
        | some k =>
          refine iteT ?_
          obtain ⟨ys, ey⟩ := hj k ej
          have hk := Rw.jump_ok (hrok r (List.mem_of_getElem? hr)) ej
          refine ⟨_, rfl, _, rfl, _, _, _, _, rfl, rfl, SqT.of (S1 _ _ ht), by rw [ey]; exact atI_last _ _, _, rfl, l, vs, rfl, .inl (SqL.of (S1 _ _ (S3 _ _ hL))), _, _, rfl, rfl, _, rfl, iteN (by have := hR.1; omega) ?_⟩
          exact ⟨_, _, rfl, S3.trans S1⟩
      · rintro σ H3 ⟨n, v3, rfl, S3⟩
        exact ⟨n, _, _, rfl, S3⟩
    · rintro σ H1 ⟨n, v2, v3, rfl, S⟩
      exact q _ S

/-! read: which lines are still to come -/
/-- done: the hands as far as they are read; z: the lines to come -/
def Here (p : Pg) (done : List (List Rw)) (z : List Str) : Prop :=
  (done = [] ∧ z = p.hands.flatMap handLines) ∨ ∃ A g1 g2 B, done = A ++ [g1] ∧ p.hands = A ++ (g1 ++ g2) :: B ∧ z = g2.map Rw.txt ++ B.flatMap handLines
theorem txt_not_hand {r : Rw} {cells rows : Nat} (h : r.ok cells rows) : r.txt ≠ "hand" := fun e => by
  have s := Rw.split h
  rw [e] at s
  have e2 : Txt.split ("hand" : Str) " " = [("hand" : Str)] := by decide +kernel
  rw [e2] at s
  cases r <;> simp [Rw.words] at s
theorem Here.step {p : Pg} (hp : p.ok) {done : List (List Rw)} {x : Str} {z : List Str} (h : Here p done (x :: z)) :
    (x = "hand" ∧ done.length < 8 ∧ Here p (done ++ [[]]) z) ∨ ∃ A g1 r g2, x = r.txt ∧ x ≠ "hand" ∧ done = A ++ [g1] ∧ (g1 ++ r :: g2) ∈ p.hands ∧ Here p (A ++ [g1 ++ [r]]) z := by
  rcases h with ⟨rfl, hz⟩ | ⟨A, g1, g2, B, rfl, hh, hz⟩
  · left
    cases hq : p.hands with
    | nil => rw [hq] at hz; cases hz
    | cons g B =>
      rw [hq, List.flatMap_cons] at hz
      injection hz with e1 e2
      exact ⟨e1, by decide, .inr ⟨[], [], g, B, rfl, hq, e2⟩⟩
  · cases g2 with
    | nil =>
      left
      cases B with
      | nil => cases hz
      | cons g B =>
        injection hz with e1 e2
        refine ⟨e1, ?_, .inr ⟨A ++ [g1], [], g, B, rfl, ?_, e2⟩⟩
        · have := hp.h2
          rw [hh] at this
          simp at this ⊢
          omega
        · rw [hh, List.append_nil, List.append_assoc]
          rfl
    | cons r g2 =>
      right
      injection hz with e1 e2
      have hm : (g1 ++ r :: g2) ∈ p.hands := by rw [hh]; simp
      refine ⟨A, g1, r, g2, e1, ?_, rfl, hm, .inr ⟨A, g1 ++ [r], g2, B, rfl, ?_, e2⟩⟩
      · rw [e1]
        exact txt_not_hand ((hp.rows _ hm).2 r (by simp))
      · rw [hh, List.append_assoc]
        rfl
theorem Here.done {p : Pg} {done : List (List Rw)} (h : Here p done []) : done = p.hands := by
  rcases h with ⟨rfl, hz⟩ | ⟨A, g1, g2, B, rfl, hh, hz⟩
  · cases hq : p.hands with
    | nil => rfl
    | cons g B => rw [hq] at hz; cases hz
  · have h2 := (List.append_eq_nil_iff.mp hz.symm)
    have e1 : g2 = [] := List.map_eq_nil_iff.mp h2.1
    have e2 : B = [] := by
      cases B with
      | nil => rfl
      | cons g B => cases h2.2
    rw [hh, e1, e2, List.append_nil]
theorem HsAt.more {H : Hp} {h l : Addr} {ls : List Addr} {hs : List (List Rw)} (k : HsAt H h ls hs) (hl : H l = none) :
    HsAt (upd (upd H l (.lst [])) h (.lst (ls.map V.ref ++ [.ref l]))) h (ls ++ [l]) (hs ++ [[]]) := by
  have nhl : h ≠ l := ne_of_none k.top hl
  have nl : ∀ m ∈ ls, m ≠ l := fun m hm e => by
    obtain ⟨i, hi⟩ := List.getElem?_of_mem hm
    obtain ⟨rs, hrs⟩ := some_of_lt hi k.len
    obtain ⟨vs, q, _⟩ := k.rows i m rs hi hrs
    rw [e, hl] at q
    cases q
  have hnd := k.nd
  rw [List.nodup_cons] at hnd
  refine ⟨by rw [upd_same, List.map_append] <;> rfl, by rw [List.length_append, List.length_append, k.len] <;> rfl, ?_, fun i m rs a b => ?_⟩
  · rw [List.nodup_cons]
    refine ⟨fun m => ?_, ?_⟩
    · rcases List.mem_append.mp m with m | m
      · exact hnd.1 m
      · exact nhl (List.mem_singleton.mp m)
    · rw [List.nodup_append]
      exact ⟨hnd.2, by simp, fun a ha b hb e => nl a ha (by rw [e, List.mem_singleton.mp hb])⟩
  · have tsl : TS H (upd (upd H l (.lst [])) h (.lst (ls.map V.ref ++ [.ref l]))) := fun a xs e => by
      rw [upd_ne (fun z => by rw [z, k.top] at e; cases e), upd_ne (ne_of_none e hl)]
      exact e
    by_cases hi : i < ls.length
    · rw [List.getElem?_append_left hi] at a
      rw [List.getElem?_append_left (by rw [← k.len]; exact hi)] at b
      obtain ⟨vs, q, r⟩ := k.rows i m rs a b
      have hm := List.mem_of_getElem? a
      exact ⟨vs, by rw [upd_ne (fun z => hnd.1 (by rw [← z]; exact hm)), upd_ne (nl m hm)]; exact q, r.ts tsl⟩
    · have hkl := k.len
      rw [List.getElem?_append_right (by omega)] at a
      rw [List.getElem?_append_right (by omega)] at b
      have e : i - ls.length = 0 := by
        cases hn : i - ls.length with
        | zero => rfl
        | succ n => rw [hn] at a; simp at a
      rw [e] at a
      rw [show i - hs.length = 0 by omega] at b
      simp only [List.getElem?_cons_zero, Option.some.injEq] at a b
      subst a b
      exact ⟨[], by rw [upd_ne (Ne.symm nhl), upd_same], RowsAt.nil _⟩
theorem HsAt.last {H : Hp} {h : Addr} {ls : List Addr} {A : List (List Rw)} {g : List Rw} (k : HsAt H h ls (A ++ [g])) : ∃ la l xs, ls = la ++ [l] ∧ H l = some (.lst xs) ∧ RowsAt H xs g := by
  have e := k.len
  rw [List.length_append] at e
  rcases List.eq_nil_or_concat ls with e0 | ⟨la, l, e0⟩
  · rw [e0] at e; simp at e
  · rw [List.concat_eq_append] at e0
    subst e0
    have el : la.length = A.length := by simpa using e
    obtain ⟨xs, q, r⟩ := k.rows la.length l g (by simp) (by rw [el]; simp)
    exact ⟨la, l, xs, rfl, q, r⟩
theorem HsAt.push {H H' : Hp} {h l : Addr} {la : List Addr} {A : List (List Rw)} {g : List Rw} {r : Rw} {xs : List V} {v : V} (k : HsAt H h (la ++ [l]) (A ++ [g])) (hl : H l = some (.lst xs)) (hx : RowsAt H xs g) (kp : Kp1 l H H')
    (hl' : H' l = some (.lst (xs ++ [v]))) (hv : RwAt H' v r) : HsAt H' h (la ++ [l]) (A ++ [g ++ [r]]) := by
  have tsl : TS H H' := TS.kp kp hl (fun xs e => by cases e)
  have hnd := k.nd
  rw [List.nodup_cons] at hnd
  have e := k.len
  have el : la.length = A.length := by simpa using e
  have nd2 := hnd.2
  rw [List.nodup_append] at nd2
  refine ⟨kp _ _ k.top (fun z => hnd.1 (by rw [z]; simp)), by simpa using el, k.nd, fun i m rs a b => ?_⟩
  by_cases hi : i < la.length
  · rw [List.getElem?_append_left hi] at a
    rw [List.getElem?_append_left (by omega)] at b
    obtain ⟨vs, q, r⟩ := k.rows i m rs (by rw [List.getElem?_append_left hi]; exact a) (by rw [List.getElem?_append_left (by omega)]; exact b)
    exact ⟨vs, kp _ _ q (fun z => nd2.2.2 m (List.mem_of_getElem? a) l (by simp) z), r.ts tsl⟩
  · rw [List.getElem?_append_right (by omega)] at a
    rw [List.getElem?_append_right (by omega)] at b
    have e : i - la.length = 0 := by
      cases hn : i - la.length with
      | zero => rfl
      | succ n => rw [hn] at a; simp at a
    rw [e] at a
    rw [show i - A.length = 0 by omega] at b
    simp only [List.getElem?_cons_zero, Option.some.injEq] at a b
    subst a b
    exact ⟨_, hl', (hx.ts tsl).snoc hv⟩
theorem cut_tail (x : V) (xs : List V) : cutV (x :: xs) (some 1) none = xs := by
  unfold cutV
  have e1 : HT.sIx (x :: xs).length 0 (some 1) = 1 := by simp [HT.sIx]
  have e2 : HT.sIx (x :: xs).length (x :: xs).length none = (x :: xs).length := rfl
  rw [e1, e2]
  simp
def sp_read : Sp := fun vs H Q _ => ∃ p : Pg, vs = [.str p.txt] ∧ p.ok ∧ ∀ v H', ProgAt H' v p → Same H H' → Q v H'
theorem drop_line {z : List Str} {i : Nat} {y : V} (e : (z.map V.str)[i]? = some y) : ∃ x, y = .str x ∧ z.drop i = x :: z.drop (i + 1) ∧ x ∈ z := by
  rw [List.getElem?_map] at e
  cases h : z[i]? with
  | none => rw [h] at e; cases e
  | some x =>
    rw [h] at e
    have hi := (List.getElem?_eq_some_iff.mp h)
    refine ⟨x, (Option.some.inj e).symm, ?_, List.mem_of_getElem? h⟩
    rw [List.drop_eq_getElem_cons hi.1, hi.2]
theorem sc_read : FnScope ["text", "rows", "many", "hands", "at", "row"] ["text"] (defScope s_read) := ⟨rfl, rfl, rfl, by decide +kernel, rfl, by decide +kernel, by decide +kernel⟩
theorem ok_read (T : Txt K mg) (F : FnP K "read" "read" s_read [] f fd) (h_cells_of : Def1 P w K mg base "cells_of" ["row"] [] 2 sp_cells_of) (h_take_row : Def1 P w K mg base "take_row" ["hands", "words", "many", "at"] [] 6 sp_take_row)
    (h_look_at_targets : Def1 P w K mg base "look_at_targets" ["hands"] [] 1 sp_look_at_targets) : FnOk P w K mg base CX0 7 f fd ["text"] sp_read := by
  refine fok F sc_read (fun vs H Q E h => ?_) (fun cdv A outer s H vs Q E hr h => ?_)
  · obtain ⟨_, rfl, _⟩ := h
    rfl
  · obtain ⟨p, rfl, hp, q⟩ := h
    have hu : (A.deeper (envOfC "read" (defScope s_read) s.heap.objs.size f cdv)).units < cLine := by have := hr.un; omega
    refine ⟨_, (pss_cons (ps_set (i := 1) sc_read.nd rfl (Or.inl rfl) (pe_split (pv 0) pe_str))
  (pss_cons (ps_set (i := 2) sc_read.nd rfl (Or.inl rfl) (pe_cl h_cells_of hr (pa_cons (pe_ix ix_list (pv 1) pe_int (fun _ _ => rfl)) pa_nil)))
  (pss_cons (ps_set (i := 3) sc_read.nd rfl (Or.inl rfl) (pe_lst pa_nil))
  (pss_cons (ps_for PassesOwn.never rfl (pi_enumS (by decide) (by decide) rfl T.n_enumerate (pa_cons (pe_slice sl_list (pv 1) (po_some pe_int) po_none) pa_nil)) (pg_tup (by rfl) (pgs_cons (pg_name (i := 4) sc_read.nd rfl (Or.inl rfl)) (pgs_cons (pg_name (i := 5) sc_read.nd rfl (Or.inl rfl)) pgs_nil)))
  (pss_one (ps_if (pt_cmpR op_ne (pv 5) pe_str (nomark _))
  (pss_one (ps_expr (pe_cl h_take_row hr (pa_cons (pv 3) (pa_cons (pe_split (pv 5) pe_str) (pa_cons (pv 2) (pa_cons (pv 4) pa_nil)))))))
  (pss_one (ps_if (pt_cmpR op_eq (pe_callB call_len_seq (by rfl) T.n_len (by decide +kernel) (pa_cons (pv 3) pa_nil)) (pe_gl T.g_MOST_HANDS_programs) (nomark _))
  (pss_one ps_never)
  (pss_one (ps_expr (pe_bm PySem.F.plainAttrs_list PySem.F.slot_list_append PySem.F.type_list_append mt_append (pv 3) (pa_cons (pe_lst pa_nil) pa_nil)))))))))
  (pss_cons (ps_if (pt_cmpR (op_eqNil hu) (pv 3) (pe_lst pa_nil) (nomark _))
  (pss_one ps_never)
  pss_nil)
  (pss_cons (ps_expr (pe_cl h_look_at_targets hr (pa_cons (pv 3) pa_nil)))
  (pss_one (ps_ret (pe_tup (pa_cons (pv 2) (pa_cons (pv 3) pa_nil))))))))))), ?_⟩
    have hlen := Pg.len hp
    have hll := Pg.lines_len hp
    refine ⟨_, rfl, ⟨_, rfl⟩, _, _, rfl, rfl, by decide +kernel, szw (by omega), ?_⟩
    rw [Pg.split hp]
    refine fun tl htl => ?_
    have S1 := Same.new (o := .lst (p.lines.map V.str)) htl
    have hT1 : (upd H tl (.lst (p.lines.map V.str))) tl = some (.lst (p.lines.map V.str)) := upd_same
    generalize upd H tl (.lst (p.lines.map V.str)) = H1 at S1 hT1
    refine ⟨_, rfl, _, _, _, _, rfl, rfl, SqL.of hT1, at0, p.cells, rfl, hp.c1, hp.c2, fun H2 S2 => ?_⟩
    refine ⟨by show 0 ≤ sizeLine; decide, fun h hh => ?_⟩
    have S3 := Same.new (o := .lst []) hh
    have hT3 := S3 _ _ (S2 _ _ hT1)
    have S13 := S1.trans (S2.trans S3)
    have hfree : H h = none := (S1.trans S2).free hh
    refine ⟨_, rfl, _, rfl, tl, _, rfl, SqL.of hT3, fun z hz => ?_⟩
    have ecut : cutV (p.lines.map V.str) (some 1) none = (p.hands.flatMap handLines).map V.str := by
      exact cut_tail _ _
    rw [ecut]
    have hz3 : (upd (upd H2 h (.lst [])) z (.lst ((p.hands.flatMap handLines).map V.str))) z = some (.lst ((p.hands.flatMap handLines).map V.str)) := upd_same
    have nzh : z ≠ h := fun e => by
      rw [e, upd_same] at hz
      cases hz
    have S4 := Same.new (o := .lst ((p.hands.flatMap handLines).map V.str)) hz
    have hzH : H z = none := S13.free hz
    have hh4 := S4 _ _ (upd_same (H := H2) (a := h) (o := .lst []))
    have S04 : Same H (upd (upd H2 h (.lst [])) z (.lst ((p.hands.flatMap handLines).map V.str))) := S13.trans S4
    generalize upd (upd H2 h (.lst [])) z (.lst ((p.hands.flatMap handLines).map V.str)) = H4 at hz3 S4 hh4 S04
    have bnd := lines_bound hp.rows hp.c2
    have h8 := hp.h2
    refine ⟨_, _, rfl, SqL.of hz3, for_it (walk_enumS (xs := (p.hands.flatMap handLines).map V.str)) (fun i σ H' => ∃ (v4 v5 : Option V) (ls : List Addr) (done : List (List Rw)), σ = [some (.str p.txt), some (.ref tl), some (.int (p.cells : Int)), some (.ref h), v4, v5] ∧
        Same H H' ∧ H' z = some (.lst ((p.hands.flatMap handLines).map V.str)) ∧ z ∉ (h :: ls) ∧ (∀ l ∈ ls, H l = none) ∧ HsAt H' h ls done ∧ Here p done ((p.hands.flatMap handLines).drop i))
      ⟨none, none, [], [], rfl, S04, hz3, by simp [nzh], (fun _ h => (by cases h)), ⟨hh4, rfl, by simp, fun i l rs a => (by cases a)⟩, .inl ⟨rfl, rfl⟩⟩ (fun i σ H' _ ⟨_, _, _, _, _, _, hz, _⟩ => SqL.of hz) ?_ ?_⟩
    · rintro i y σ H' H'' hi ⟨v4, v5, ls, done, rfl, S, hz', nz, hfr, hA, hHere⟩ ⟨t, x, y, rfl, ht, rfl, hx, hy⟩
      obtain ⟨ln, rfl, ed, hm⟩ := drop_line hy
      rw [ed] at hHere
      have ex := Option.some.inj hx
      subst ex
      have ST := Same.new (o := .tup [.int (2 + (i : Nat)), .str ln]) ht
      have hA2 := hA.same ST
      have S2 := S.trans ST
      have hz2 := ST _ _ hz'
      refine ⟨t, _, rfl, SqT.of upd_same, rfl, _, _, rfl, _, _, rfl, rfl, ?_⟩
      generalize upd H' t (.tup [.int (2 + (i : Nat)), .str ln]) = H5 at ST hA2 S2 hz2
      rcases hHere.step hp with ⟨rfl, hd8, hh'⟩ | ⟨A, g1, r, g2, rfl, hnh, rfl, hmem, hh'⟩
      · refine ⟨_, rfl, rfl, _, rfl, iteNS rfl ?_⟩
        refine ⟨_, rfl, h, _, rfl, .inl (SqL.of hA2.top), rfl, _, rfl, iteN (fun e => by have := V.int.inj e; have := hA2.len; simp at *; omega) ?_⟩
        refine ⟨_, rfl, .inl ⟨rfl, _, SqL.of hA2.top⟩, by show 0 ≤ sizeLine; decide, fun l hl => ?_⟩
        have nhl : h ≠ l := ne_of_none hA2.top hl
        refine ⟨h, _, _, rfl, rfl, by rw [upd_ne nhl]; exact hA2.top, ?_, ?_⟩
        · rw [List.length_map]
          exact Nat.lt_of_lt_of_le (by have := hA2.len; omega : _ < 8) (by decide)
        · refine ⟨_, _, ls ++ [l], done ++ [[]], rfl, ?_, ?_, ?_, ?_, hA2.more hl, hh'⟩
          · exact Same.mut (S2.trans (Same.new hl)) hfree
          · rw [upd_ne nzh, upd_ne (ne_of_none hz2 hl)]
            exact hz2
          · simp only [List.mem_cons, List.mem_append, List.not_mem_nil, or_false, not_or] at nz ⊢
            exact ⟨nz.1, nz.2, ne_of_none hz2 hl⟩
          · intro m hm
            rcases List.mem_append.mp hm with hm | hm
            · exact hfr m hm
            · rw [List.mem_singleton.mp hm]
              exact S2.free hl
      · obtain ⟨h60, hrok⟩ := hp.rows _ hmem
        have rok := hrok r (by simp)
        refine ⟨_, rfl, rfl, _, rfl, iteNY (fun e => hnh (V.str.inj e)) ?_⟩
        obtain ⟨la, l, xs, rfl, hl, hxs⟩ := hA2.last
        have l50 := bnd.1 _ hm
        refine ⟨_, rfl, _, rfl, ⟨_, rfl⟩, _, _, rfl, rfl, by decide +kernel, szw (by omega), ?_⟩
        rw [Rw.split rok]
        refine fun wl hwl => ?_
        have S6 := Same.new (o := .lst (r.words.map V.str)) hwl
        have hl6 := S6 _ _ hl
        refine ⟨_, rfl, _, rfl, h, wl, p.cells, i + 2, r, la.map V.ref, l, xs, (g1 ++ r :: g2).length, ?_, ?_, upd_same, hl6, ?_, hp.c2, h60, rok, fun v H7 hv kp hl7 => ?_⟩
        · have e : (2 : Int) + (i : Int) = ((i + 2 : Nat) : Int) := by omega
          exact congrArg (fun z => [V.ref h, V.ref wl, V.int (p.cells : Int), V.int z]) e
        · have := S6 _ _ hA2.top
          rw [this, List.map_append]
          rfl
        · rw [hxs.1]
          simp at h60
          omega
        · have hlH : H l = none := hfr l (by simp)
          have hne : z ≠ l := fun e => nz (by rw [e]; simp)
          refine ⟨_, _, la ++ [l], A ++ [g1 ++ [r]], rfl, kp.same (S2.trans S6) hlH, kp _ _ (S6 _ _ hz2) hne, nz, hfr, HsAt.push (hA2.same S6) hl6 (hxs.ts (TS.of S6)) kp hl7 hv, hh'⟩
    · rintro σ H' ⟨v4, v5, ls, done, rfl, S, hz', nz, hfr, hA, hHere⟩
      rw [List.length_map, List.drop_length] at hHere
      have hd := hHere.done
      subst hd
      refine ⟨_, rfl, by show 0 ≤ sizeLine; decide, fun e he => ?_⟩
      have S5 := Same.new (o := .lst []) he
      have hA5 := hA.same S5
      refine ⟨h, e, ls.map V.ref, rfl, rfl, SqL.of hA5.top, SqL.of upd_same, _, rfl, ?_⟩
      have hne : (ls.map V.ref).isEmpty = false := by
        cases ls with
        | nil =>
          have := hA.len
          have := hp.h1
          simp at *
          omega
        | cons l r => rfl
      rw [hne]
      refine iteF ?_
      refine ⟨_, rfl, h, ls, p.hands, rfl, hA5, hp.h2, fun g hg => ⟨(hp.rows g hg).1, fun r hr => ?_⟩, fun H6 S6 => ?_⟩
      · have := (hp.rows g hg).2 r hr
        have c2 := hp.c2
        cases r <;> simp only [Rw.ok] at this ⊢ <;> first | exact this | exact ⟨this.1, by omega⟩ | exact ⟨by omega, this.2⟩ | exact ⟨this.1, by omega, this.2.2⟩
      · refine ⟨_, rfl, _, rfl, by show 2 ≤ sizeLine; decide, fun t ht => ?_⟩
        exact q _ _ ⟨t, h, ls, rfl, upd_same, (hA5.same S6).same (Same.new ht)⟩ (S.trans (S5.trans (S6.trans (Same.new ht))))
end
end K72

set_option Elab.async false
set_option linter.all false
set_option maxRecDepth 100000
set_option maxHeartbeats 4000000
/-! works as plain data -/
namespace K72
open PySem PySem.Spec PyProof.Rows L2 TL
def Pl.now (held : List Int) : Pl → Int
  | .num n => n
  | .box i => held.getD i 0
def Wo.now (held : List Int) : Wo → Int
  | .pl p => p.now held
  | .add a b => (a.now held + b.now held).fmod 1000
  | .sub a b => (a.now held - b.now held).fmod 1000
def so (held : List Int) (q : Bool) (x y : Wo) : Bool := if q then decide (x.now held = y.now held) else decide (x.now held < y.now held)
inductive Way where
  | waits
  | ends
  | lost
  deriving DecidableEq
def Way.txt : Way → Str
  | .waits => "waits"
  | .ends => "ends"
  | .lost => "lost"
structure Hn where
  rows : List Rw
  pos : Nat
  held : List Int
  said : Nat
  way : Way
inductive Kd where
  | load
  | store
  | swap
  deriving DecidableEq
def Kd.txt : Kd → Str
  | .load => "load"
  | .store => "store"
  | .swap => "swap"
structure Tc where
  kind : Kd
  cell : Nat
  found : Option Int
  put : Option Int
  deriving DecidableEq
def oI : Option Int → V
  | some c => .int c
  | none => .non
def Tc.vs (t : Tc) : List V := [.str t.kind.txt, .int (t.cell : Int), oI t.found, oI t.put]
def Rw.touch : Rw → Bool
  | .load _ _ => true
  | .store _ _ => true
  | .swap _ _ _ => true
  | _ => false
def Hn.own (h : Hn) : Rw → Hn
  | .let_ b e => { h with pos := h.pos + 1, held := h.held.set b (e.now h.held) }
  | .say _ => { h with pos := h.pos + 1, said := h.said + 1 }
  | .go k => { h with pos := k }
  | .unl q x y k => { h with pos := if so h.held q x y then h.pos + 1 else k }
  | _ => h
def Hn.row (h : Hn) : Rw := h.rows.getD h.pos (.go 0)
def Hn.stop (h : Hn) : Option Way :=
  match h.rows[h.pos]? with
  | none => some .ends
  | some r => if r.touch then some .waits else none
def Hn.lead : Nat → Hn → Hn
  | 0, h => { h with way := h.stop.getD .lost }
  | n + 1, h =>
    match h.stop with
    | some w => { h with way := w }
    | none => Hn.lead n (h.own h.row)
/-- a touch that finds x in its cell -/
def Hn.hit (h : Hn) (x : Int) : Hn × Tc :=
  match h.row with
  | .store c e => ({ h with pos := h.pos + 1 }, ⟨.store, c, none, some (e.now h.held)⟩)
  | .load b c => ({ h with pos := h.pos + 1, held := h.held.set b x }, ⟨.load, c, some x, none⟩)
  | .swap b c e => ({ h with pos := h.pos + 1, held := h.held.set b x }, ⟨.swap, c, some x, some (e.now h.held)⟩)
  | _ => (h, ⟨.load, 0, none, none⟩)
def Hn.cell (h : Hn) : Nat := (h.row.cell).getD 0
def Tc.wr (t : Tc) (sh : List Int) : List Int :=
  match t.put with
  | some v => sh.set t.cell v
  | none => sh
structure Ws where
  shared : List Int
  team : List Hn
  past : List Nat
def Ws.turn (s : Ws) (i : Nat) : Option (Ws × Tc) :=
  match s.team[i]? with
  | none => none
  | some h =>
    if h.way = .waits then
      let p := h.hit (s.shared.getD h.cell 0)
      some (⟨p.2.wr s.shared, s.team.set i (Hn.lead 60 p.1), s.past ++ [i]⟩, p.2)
    else none
def Hn.new (rows : List Rw) : Hn := Hn.lead 60 ⟨rows, 0, List.replicate 8 0, 0, .waits⟩
def Ws.new (p : Pg) : Ws := ⟨List.replicate p.cells 0, p.hands.map Hn.new, []⟩
/-! ### what stays true -/
structure Hn.ok (cells : Nat) (h : Hn) : Prop where
  pos : h.pos ≤ h.rows.length
  held : h.held.length = 8
  rows : ∀ r ∈ h.rows, r.ok cells h.rows.length
  few : h.rows.length ≤ 60
/-- a hand that waits stands before a touch -/
def Hn.tru (h : Hn) : Prop := h.way = .waits → h.stop = some .waits
theorem Hn.row_ok {cells : Nat} {h : Hn} (k : h.ok cells) (hp : h.pos < h.rows.length) : h.rows[h.pos]? = some h.row ∧ h.row ∈ h.rows ∧ h.row.ok cells h.rows.length := by
  have e : h.rows[h.pos]? = some h.row := by
    unfold Hn.row
    rw [List.getD_eq_getElem?_getD, List.getElem?_eq_getElem hp]
    rfl
  exact ⟨e, List.mem_of_getElem? e, k.rows _ (List.mem_of_getElem? e)⟩
theorem Hn.stop_none {h : Hn} (e : h.stop = none) : h.pos < h.rows.length ∧ h.row.touch = false := by
  unfold Hn.stop at e
  cases q : h.rows[h.pos]? with
  | none => rw [q] at e; cases e
  | some r =>
    rw [q] at e
    have hr : h.row = r := by unfold Hn.row; rw [List.getD_eq_getElem?_getD, q] <;> rfl
    refine ⟨(List.getElem?_eq_some_iff.mp q).1, ?_⟩
    rw [hr]
    cases ht : r.touch with
    | false => rfl
    | true => simp [ht] at e
theorem Hn.stop_waits {h : Hn} (e : h.stop = some .waits) : h.pos < h.rows.length ∧ h.row.touch = true := by
  unfold Hn.stop at e
  cases q : h.rows[h.pos]? with
  | none => rw [q] at e; cases e
  | some r =>
    rw [q] at e
    have hr : h.row = r := by unfold Hn.row; rw [List.getD_eq_getElem?_getD, q] <;> rfl
    refine ⟨(List.getElem?_eq_some_iff.mp q).1, ?_⟩
    rw [hr]
    cases ht : r.touch with
    | true => rfl
    | false => simp [ht] at e
theorem Hn.stop_ends {h : Hn} (e : h.stop = some .ends) : h.rows.length ≤ h.pos := by
  unfold Hn.stop at e
  cases q : h.rows[h.pos]? with
  | none => exact List.getElem?_eq_none_iff.mp q
  | some r =>
    rw [q] at e
    simp only at e
    split at e <;> cases e
theorem Hn.stop_lost {h : Hn} (e : h.stop = some .lost) : False := by
  unfold Hn.stop at e
  cases q : h.rows[h.pos]? with
  | none => rw [q] at e; cases e
  | some r =>
    rw [q] at e
    simp only at e
    split at e <;> cases e
theorem Hn.own_ok {cells : Nat} {h : Hn} {r : Rw} (k : h.ok cells) (hp : h.pos < h.rows.length) (hr : r.ok cells h.rows.length) : (h.own r).ok cells ∧ (h.own r).rows = h.rows ∧ (h.own r).said ≤ h.said + 1 := by
  cases r with
  | let_ b e => exact ⟨⟨hp, by show (h.held.set _ _).length = 8; rw [List.length_set]; exact k.held, k.rows, k.few⟩, rfl, Nat.le_succ _⟩
  | say e => exact ⟨⟨hp, k.held, k.rows, k.few⟩, rfl, Nat.le_refl _⟩
  | go j => exact ⟨⟨hr, k.held, k.rows, k.few⟩, rfl, Nat.le_succ _⟩
  | unl q x y j =>
    refine ⟨⟨?_, k.held, k.rows, k.few⟩, rfl, Nat.le_succ _⟩
    show (if so h.held q x y then h.pos + 1 else j) ≤ h.rows.length
    split
    · exact hp
    · exact hr.2.2
  | load b c => exact ⟨k, rfl, Nat.le_succ _⟩
  | store c e => exact ⟨k, rfl, Nat.le_succ _⟩
  | swap b c e => exact ⟨k, rfl, Nat.le_succ _⟩
theorem Hn.lead_ok {cells : Nat} : ∀ (n : Nat) {h : Hn}, h.ok cells → (Hn.lead n h).ok cells ∧ (Hn.lead n h).tru ∧ (Hn.lead n h).rows = h.rows ∧ (Hn.lead n h).said ≤ h.said + n
  | 0, h, k => by
    refine ⟨⟨k.pos, k.held, k.rows, k.few⟩, fun e => ?_, rfl, Nat.le_refl _⟩
    show h.stop = some .waits
    have e' : h.stop.getD .lost = .waits := e
    cases q : h.stop with
    | none => rw [q] at e'; cases e'
    | some w => rw [q] at e'; exact congrArg some e'
  | n + 1, h, k => by
    cases q : h.stop with
    | some w =>
      have e : Hn.lead (n + 1) h = { h with way := w } := by show (match h.stop with | some w => _ | none => _) = _; rw [q]
      rw [e]
      exact ⟨⟨k.pos, k.held, k.rows, k.few⟩, fun e' => by show h.stop = _; rw [q]; exact congrArg some e', rfl, Nat.le_add_right _ _⟩
    | none =>
      have e : Hn.lead (n + 1) h = Hn.lead n (h.own h.row) := by show (match h.stop with | some w => _ | none => _) = _; rw [q]
      rw [e]
      have hp := (Hn.stop_none q).1
      obtain ⟨k1, e1, s1⟩ := Hn.own_ok k hp (Hn.row_ok k hp).2.2
      obtain ⟨a, b, c, d⟩ := Hn.lead_ok n k1
      exact ⟨a, b, c.trans e1, by omega⟩
theorem Hn.hit_ok {cells : Nat} {h : Hn} (k : h.ok cells) (w : h.stop = some .waits) (x : Int) : (h.hit x).1.ok cells ∧ (h.hit x).1.rows = h.rows ∧ (h.hit x).1.said = h.said ∧ h.cell < cells ∧ (h.hit x).2.cell = h.cell := by
  obtain ⟨hp, ht⟩ := Hn.stop_waits w
  obtain ⟨_, _, hr⟩ := Hn.row_ok k hp
  unfold Hn.hit Hn.cell
  cases q : h.row with
  | load b c =>
    rw [q] at hr
    exact ⟨⟨hp, by show (h.held.set _ _).length = 8; rw [List.length_set]; exact k.held, k.rows, k.few⟩, rfl, rfl, hr.2, rfl⟩
  | store c e =>
    rw [q] at hr
    exact ⟨⟨hp, k.held, k.rows, k.few⟩, rfl, rfl, hr.1, rfl⟩
  | swap b c e =>
    rw [q] at hr
    exact ⟨⟨hp, by show (h.held.set _ _).length = 8; rw [List.length_set]; exact k.held, k.rows, k.few⟩, rfl, rfl, hr.2.1, rfl⟩
  | let_ b e => rw [q] at ht; cases ht
  | say e => rw [q] at ht; cases ht
  | go j => rw [q] at ht; cases ht
  | unl g x y j => rw [q] at ht; cases ht
structure Ws.ok (p : Pg) (s : Ws) : Prop where
  sh : s.shared.length = p.cells
  tm : s.team.length = p.hands.length
  each : ∀ h ∈ s.team, h.ok p.cells ∧ h.tru ∧ h.said ≤ 60 * (s.past.length + 1)
theorem Ws.new_ok {p : Pg} (hp : p.ok) : (Ws.new p).ok p := by
  refine ⟨by simp [Ws.new], by simp [Ws.new], fun h hh => ?_⟩
  obtain ⟨rs, hrs, rfl⟩ := List.mem_map.mp hh
  obtain ⟨h1, h2⟩ := hp.rows rs hrs
  obtain ⟨a, b, c, d⟩ := Hn.lead_ok (cells := p.cells) 60 (h := ⟨rs, 0, List.replicate 8 0, 0, .waits⟩) ⟨Nat.zero_le _, by simp, h2, h1⟩
  exact ⟨a, b, by show (Hn.lead 60 _).said ≤ 60 * 1; simpa using d⟩
theorem Ws.turn_some {s s' : Ws} {i : Nat} {t : Tc} (e : s.turn i = some (s', t)) : ∃ h, s.team[i]? = some h ∧ h.way = .waits ∧ t = (h.hit (s.shared.getD h.cell 0)).2 ∧
    s' = ⟨t.wr s.shared, s.team.set i (Hn.lead 60 (h.hit (s.shared.getD h.cell 0)).1), s.past ++ [i]⟩ := by
  unfold Ws.turn at e
  cases q : s.team[i]? with
  | none => rw [q] at e; cases e
  | some h =>
    rw [q] at e
    simp only at e
    split at e
    · rename_i hw
      obtain ⟨rfl, rfl⟩ := Prod.mk.inj (Option.some.inj e)
      exact ⟨h, rfl, hw, rfl, rfl⟩
    · cases e
theorem Ws.turn_of {s : Ws} {i : Nat} {h : Hn} (e : s.team[i]? = some h) (w : h.way = .waits) : s.turn i = some (⟨(h.hit (s.shared.getD h.cell 0)).2.wr s.shared, s.team.set i (Hn.lead 60 (h.hit (s.shared.getD h.cell 0)).1), s.past ++ [i]⟩, (h.hit (s.shared.getD h.cell 0)).2) := by
  unfold Ws.turn
  rw [e]
  simp only
  rw [if_pos w]
theorem Tc.wr_len (t : Tc) (sh : List Int) : (t.wr sh).length = sh.length := by
  unfold Tc.wr
  cases t.put with
  | none => rfl
  | some v => exact List.length_set
theorem Ws.turn_ok {p : Pg} {s s' : Ws} {i : Nat} {t : Tc} (k : s.ok p) (e : s.turn i = some (s', t)) : s'.ok p ∧ s'.past = s.past ++ [i] ∧ t.cell < p.cells := by
  obtain ⟨h, eh, hw, et, es⟩ := Ws.turn_some e
  obtain ⟨k1, k2, k3⟩ := k.each h (List.mem_of_getElem? eh)
  obtain ⟨a, b, c, d, f⟩ := Hn.hit_ok k1 (k2 hw) (s.shared.getD h.cell 0)
  obtain ⟨a', b', c', d'⟩ := Hn.lead_ok 60 a
  subst es
  refine ⟨⟨by rw [Tc.wr_len]; exact k.sh, by rw [List.length_set]; exact k.tm, fun g hg => ?_⟩, rfl, by rw [et, f]; exact d⟩
  show _ ∧ _ ∧ g.said ≤ 60 * ((s.past ++ [i]).length + 1)
  rw [List.length_append]
  rcases List.mem_or_eq_of_mem_set hg with hg | rfl
  · obtain ⟨g1, g2, g3⟩ := k.each g hg
    exact ⟨g1, g2, by show g.said ≤ 60 * (s.past.length + 1 + 1); omega⟩
  · exact ⟨a', b', by show (Hn.lead 60 _).said ≤ 60 * (s.past.length + 1 + 1); omega⟩
end K72

set_option Elab.async false
set_option linter.all false
set_option maxRecDepth 100000
set_option maxHeartbeats 4000000
/-! worth_now, is_so, put_in -/
namespace K72
open PySem PySem.Spec PyProof.Rows L2 TL
local macro_rules | `(tactic| walk_at "nz") => `(tactic| (show ¬ (_ : Int) = 0; decide))
theorem letter_ix : ∀ b : Nat, b < 8 → ∃ rest, Builtin.Str.occurrences ("abcdefgh" : Str) (letS b) 0 ("abcdefgh" : Str).length 1 = b :: rest := by
  have h : ∀ b : Nat, b < 8 → (Builtin.Str.occurrences ("abcdefgh" : Str) (letS b) 0 ("abcdefgh" : Str).length 1).head? = some b := by decide +kernel
  intro b hb
  have e := h b hb
  cases q : Builtin.Str.occurrences ("abcdefgh" : Str) (letS b) 0 ("abcdefgh" : Str).length 1 with
  | nil => rw [q] at e; cases e
  | cons x r =>
    rw [q] at e
    have e2 : x = b := Option.some.inj e
    exact ⟨r, by rw [e2]⟩
theorem held_at {held : List Int} {i : Nat} (h : i < held.length) : atI (held.map V.int) (i : Int) = some (.int (held.getD i 0)) := by
  refine atI_nat ?_
  rw [List.getElem?_map, List.getD_eq_getElem?_getD, List.getElem?_eq_getElem h]
  rfl
theorem ixN_nat {n i : Nat} (h : i < n) : ixN n (i : Int) = some i := by
  unfold ixN
  rw [if_pos (by omega), if_pos (by omega)]
  simp
def spNo : Sp := fun _ _ _ _ => False
def sp_worth_now (sel : Wo → Prop) : Sp := fun vs H Q _ => ∃ (a : Addr) (v : V) (held : List Int) (e : Wo), vs = [.ref a, v] ∧ H a = some (.lst (held.map V.int)) ∧ held.length = 8 ∧ WoAt H v e ∧ e.ok ∧ sel e ∧ Q (.int (e.now held)) H
def Wo.plain : Wo → Prop
  | .pl _ => True
  | _ => False
def sp_worth1 : Sp := sp_worth_now Wo.plain
def sp_worth : Sp := sp_worth_now fun _ => True
def sp_is_so : Sp := fun vs H Q _ => ∃ (a : Addr) (vx vy : V) (held : List Int) (g : Bool) (x y : Wo), vs = [.ref a, .str (sgn g), vx, vy] ∧ H a = some (.lst (held.map V.int)) ∧ held.length = 8 ∧ WoAt H vx x ∧ x.ok ∧ WoAt H vy y ∧ y.ok ∧ Q (.bl (so held g x y)) H
def sp_put_in (K : PySem.W.Frag) : Sp := fun vs H Q _ => ∃ (x C dx hd : Addr) (fs : List (Str × V)) (held : List Int) (b : Nat) (n : Int), vs = [.ref x, .str (letS b), .int n] ∧ H x = some (.ins C dx fs) ∧ Cls K C ∧ NoAttr K C "held" ∧ fs.lookup ("held" : Str) = some (V.ref hd) ∧
  H hd = some (.lst (held.map V.int)) ∧ held.length = 8 ∧ b < 8 ∧ Q .non (upd H hd (.lst ((held.set b n).map V.int)))
section
variable {P : Program} {w : World} {K : PySem.W.Frag} {mg : Str → Option Value} {base : Heap} {f : Addr} {fd : FuncData}
theorem sc_worth_now : FnScope ["held", "told"] ["held", "told"] (defScope s_worth_now) := ⟨rfl, rfl, rfl, by decide +kernel, rfl, by decide +kernel, by decide +kernel⟩
theorem ok_worth0 (F : FnP K "worth_now" "worth_now" s_worth_now [] f fd) : FnOk P w K mg base CX0 1 f fd ["held", "told"] spNo :=
  fok F sc_worth_now (fun vs H Q E h => h.elim) (fun cdv A outer s H vs Q E hr h => h.elim)
theorem ok_worth1 (T : Txt K mg) (F : FnP K "worth_now" "worth_now" s_worth_now [] f fd) (h_worth_now : Def1 P w K mg base "worth_now" ["held", "told"] [] 1 spNo) : FnOk P w K mg base CX0 2 f fd ["held", "told"] sp_worth1 := by
  refine fok F sc_worth_now (fun vs H Q E h => ?_) (fun cdv A outer s H vs Q E hr h => ?_)
  · obtain ⟨_, _, _, _, rfl, _⟩ := h
    rfl
  · obtain ⟨a, v, held, e, rfl, hA, h8, hv, hok, hpl, q⟩ := h
    refine ⟨_, (pss_cons (ps_if (pt_cmpR op_eq (pe_ix ix_tup (pv 1) pe_int (fun _ _ => rfl)) pe_str (nomark _))
  (pss_one (ps_ret (pe_ix ix_tup (pv 1) pe_int (fun _ _ => rfl))))
  pss_nil)
  (pss_cons (ps_if (pt_cmpR op_eq (pe_ix ix_tup (pv 1) pe_int (fun _ _ => rfl)) pe_str (nomark _))
  (pss_one (ps_ret (pe_ix ix_list (pv 0) (pe_m1 PySem.F.slot_str_index PySem.F.type_str_index mt_sindex (pe_gl T.g_LETTERS) (pe_ix ix_tup (pv 1) pe_int (fun _ _ => rfl))) (fun _ _ => rfl))))
  pss_nil)
  (pss_cons (ps_if (pt_cmpR op_eq (pe_ix ix_tup (pv 1) pe_int (fun _ _ => rfl)) pe_str (nomark _))
  (pss_one (ps_ret (pe_op op_modN (pe_op op_add (pe_cl h_worth_now hr (pa_cons (pv 0) (pa_cons (pe_ix ix_tup (pv 1) pe_int (fun _ _ => rfl)) pa_nil))) (pe_cl h_worth_now hr (pa_cons (pv 0) (pa_cons (pe_ix ix_tup (pv 1) pe_int (fun _ _ => rfl)) pa_nil)))) (pe_gl T.g_ROUND))))
  pss_nil)
  (pss_one (ps_ret (pe_op op_modN (pe_op op_sub (pe_cl h_worth_now hr (pa_cons (pv 0) (pa_cons (pe_ix ix_tup (pv 1) pe_int (fun _ _ => rfl)) pa_nil))) (pe_cl h_worth_now hr (pa_cons (pv 0) (pa_cons (pe_ix ix_tup (pv 1) pe_int (fun _ _ => rfl)) pa_nil)))) (pe_gl T.g_ROUND))))))), ?_⟩
    cases e with
    | add x y => exact hpl.elim
    | sub x y => exact hpl.elim
    | pl p =>
      obtain ⟨t, rfl, ht⟩ := hv
      cases p with
      | num n => exact ⟨_, rfl, _, _, _, _, rfl, rfl, SqT.of ht, rfl, rfl, _, rfl, iteY rfl ⟨_, rfl, _, _, _, _, rfl, rfl, SqT.of ht, rfl, q⟩⟩
      | box i =>
        obtain ⟨rest, hocc⟩ := letter_ix i hok
        exact ⟨_, rfl, _, _, _, _, rfl, rfl, SqT.of ht, rfl, rfl, _, rfl, iteN (by decide +kernel) ⟨_, rfl, _, _, _, _, rfl, rfl, SqT.of ht, rfl, rfl, _, rfl, iteY rfl
          ⟨_, rfl, ⟨_, rfl⟩, _, rfl, _, _, _, _, rfl, rfl, SqT.of ht, rfl, _, _, _, _, rfl, rfl, hocc, _, _, _, _, rfl, rfl, SqL.of hA, held_at (by have h8' : i < 8 := hok; omega), q⟩⟩⟩
theorem ok_worth_now (T : Txt K mg) (F : FnP K "worth_now" "worth_now" s_worth_now [] f fd) (h_worth_now : Def1 P w K mg base "worth_now" ["held", "told"] [] 2 sp_worth1) : FnOk P w K mg base CX0 3 f fd ["held", "told"] sp_worth := by
  refine fok F sc_worth_now (fun vs H Q E h => ?_) (fun cdv A outer s H vs Q E hr h => ?_)
  · obtain ⟨_, _, _, _, rfl, _⟩ := h
    rfl
  · obtain ⟨a, v, held, e, rfl, hA, h8, hv, hok, _, q⟩ := h
    refine ⟨_, (pss_cons (ps_if (pt_cmpR op_eq (pe_ix ix_tup (pv 1) pe_int (fun _ _ => rfl)) pe_str (nomark _))
  (pss_one (ps_ret (pe_ix ix_tup (pv 1) pe_int (fun _ _ => rfl))))
  pss_nil)
  (pss_cons (ps_if (pt_cmpR op_eq (pe_ix ix_tup (pv 1) pe_int (fun _ _ => rfl)) pe_str (nomark _))
  (pss_one (ps_ret (pe_ix ix_list (pv 0) (pe_m1 PySem.F.slot_str_index PySem.F.type_str_index mt_sindex (pe_gl T.g_LETTERS) (pe_ix ix_tup (pv 1) pe_int (fun _ _ => rfl))) (fun _ _ => rfl))))
  pss_nil)
  (pss_cons (ps_if (pt_cmpR op_eq (pe_ix ix_tup (pv 1) pe_int (fun _ _ => rfl)) pe_str (nomark _))
  (pss_one (ps_ret (pe_op op_modN (pe_op op_add (pe_cl h_worth_now hr (pa_cons (pv 0) (pa_cons (pe_ix ix_tup (pv 1) pe_int (fun _ _ => rfl)) pa_nil))) (pe_cl h_worth_now hr (pa_cons (pv 0) (pa_cons (pe_ix ix_tup (pv 1) pe_int (fun _ _ => rfl)) pa_nil)))) (pe_gl T.g_ROUND))))
  pss_nil)
  (pss_one (ps_ret (pe_op op_modN (pe_op op_sub (pe_cl h_worth_now hr (pa_cons (pv 0) (pa_cons (pe_ix ix_tup (pv 1) pe_int (fun _ _ => rfl)) pa_nil))) (pe_cl h_worth_now hr (pa_cons (pv 0) (pa_cons (pe_ix ix_tup (pv 1) pe_int (fun _ _ => rfl)) pa_nil)))) (pe_gl T.g_ROUND))))))), ?_⟩
    cases e with
    | pl p =>
      obtain ⟨t, rfl, ht⟩ := hv
      cases p with
      | num n => exact ⟨_, rfl, _, _, _, _, rfl, rfl, SqT.of ht, rfl, rfl, _, rfl, iteY rfl ⟨_, rfl, _, _, _, _, rfl, rfl, SqT.of ht, rfl, q⟩⟩
      | box i =>
        obtain ⟨rest, hocc⟩ := letter_ix i hok
        exact ⟨_, rfl, _, _, _, _, rfl, rfl, SqT.of ht, rfl, rfl, _, rfl, iteN (by decide +kernel) ⟨_, rfl, _, _, _, _, rfl, rfl, SqT.of ht, rfl, rfl, _, rfl, iteY rfl
          ⟨_, rfl, ⟨_, rfl⟩, _, rfl, _, _, _, _, rfl, rfl, SqT.of ht, rfl, _, _, _, _, rfl, rfl, hocc, _, _, _, _, rfl, rfl, SqL.of hA, held_at (by have h8' : i < 8 := hok; omega), q⟩⟩⟩
    | add x y =>
      obtain ⟨t, va, vb, rfl, ht, hx, hy⟩ := hv
      refine ⟨_, rfl, _, _, _, _, rfl, rfl, SqT.of ht, rfl, rfl, _, rfl, iteN (by decide +kernel) ⟨_, rfl, _, _, _, _, rfl, rfl, SqT.of ht, rfl, rfl, _, rfl, iteN (by decide +kernel)
        ⟨_, rfl, _, _, _, _, rfl, rfl, SqT.of ht, rfl, rfl, _, rfl, iteY rfl ?_⟩⟩⟩
      refine ⟨_, rfl, _, rfl, _, _, _, _, rfl, rfl, SqT.of ht, rfl, a, va, held, .pl x, rfl, hA, h8, hx, hok.1, trivial, ?_⟩
      refine ⟨_, rfl, _, rfl, _, _, _, _, rfl, rfl, SqT.of ht, rfl, a, vb, held, .pl y, rfl, hA, h8, hy, hok.2, trivial, ?_⟩
      exact ⟨_, _, rfl, rfl, _, _, rfl, rfl, by walk_at "nz", q⟩
    | sub x y =>
      obtain ⟨t, va, vb, rfl, ht, hx, hy⟩ := hv
      refine ⟨_, rfl, _, _, _, _, rfl, rfl, SqT.of ht, rfl, rfl, _, rfl, iteN (by decide +kernel) ⟨_, rfl, _, _, _, _, rfl, rfl, SqT.of ht, rfl, rfl, _, rfl, iteN (by decide +kernel)
        ⟨_, rfl, _, _, _, _, rfl, rfl, SqT.of ht, rfl, rfl, _, rfl, iteN (by decide +kernel) ?_⟩⟩⟩
      refine ⟨_, rfl, _, rfl, _, _, _, _, rfl, rfl, SqT.of ht, rfl, a, va, held, .pl x, rfl, hA, h8, hx, hok.1, trivial, ?_⟩
      refine ⟨_, rfl, _, rfl, _, _, _, _, rfl, rfl, SqT.of ht, rfl, a, vb, held, .pl y, rfl, hA, h8, hy, hok.2, trivial, ?_⟩
      exact ⟨_, _, rfl, rfl, _, _, rfl, rfl, by walk_at "nz", q⟩
theorem sc_is_so : FnScope ["held", "sign", "one", "other"] ["held", "sign", "one", "other"] (defScope s_is_so) := ⟨rfl, rfl, rfl, by decide +kernel, rfl, by decide +kernel, by decide +kernel⟩
theorem ok_is_so (F : FnP K "is_so" "is_so" s_is_so [] f fd) (h_worth_now : Def1 P w K mg base "worth_now" ["held", "told"] [] 3 sp_worth) : FnOk P w K mg base CX0 4 f fd ["held", "sign", "one", "other"] sp_is_so := by
  refine fok F sc_is_so (fun vs H Q E h => ?_) (fun cdv A outer s H vs Q E hr h => ?_)
  · obtain ⟨_, _, _, _, _, _, _, rfl, _⟩ := h
    rfl
  · obtain ⟨a, vx, vy, held, g, x, y, rfl, hA, h8, hx, xok, hy, yok, q⟩ := h
    refine ⟨_, (pss_cons (ps_if (pt_cmpR op_eq (pv 1) pe_str (nomark _))
  (pss_one (ps_ret (pe_cmpR op_eq (pe_cl h_worth_now hr (pa_cons (pv 0) (pa_cons (pv 2) pa_nil))) (pe_cl h_worth_now hr (pa_cons (pv 0) (pa_cons (pv 3) pa_nil))) (nomark _))))
  pss_nil)
  (pss_one (ps_ret (pe_cmpR op_lt (pe_cl h_worth_now hr (pa_cons (pv 0) (pa_cons (pv 2) pa_nil))) (pe_cl h_worth_now hr (pa_cons (pv 0) (pa_cons (pv 3) pa_nil))) (nomark _))))), ?_⟩
    cases g with
    | true =>
      refine ⟨_, rfl, rfl, _, rfl, iteY rfl ?_⟩
      refine ⟨_, rfl, _, rfl, a, vx, held, x, rfl, hA, h8, hx, xok, trivial, _, rfl, _, rfl, a, vy, held, y, rfl, hA, h8, hy, yok, trivial, rfl, ?_⟩
      have e : decide (V.int (x.now held) = V.int (y.now held)) = decide (x.now held = y.now held) := by
        by_cases z : x.now held = y.now held
        · rw [decide_eq_true z, decide_eq_true (congrArg V.int z)]
        · rw [decide_eq_false z, decide_eq_false (fun k => z (V.int.inj k))]
      rw [e]
      exact q
    | false =>
      refine ⟨_, rfl, rfl, _, rfl, iteN (by decide +kernel) ?_⟩
      exact ⟨_, rfl, _, rfl, a, vx, held, x, rfl, hA, h8, hx, xok, trivial, _, rfl, _, rfl, a, vy, held, y, rfl, hA, h8, hy, yok, trivial, _, _, rfl, rfl, q⟩
theorem sc_put_in : FnScope ["hand", "box", "number"] ["hand", "box", "number"] (defScope s_put_in) := ⟨rfl, rfl, rfl, by decide +kernel, rfl, by decide +kernel, by decide +kernel⟩
theorem ok_put_in (T : Txt K mg) (F : FnP K "put_in" "put_in" s_put_in [] f fd) : FnOk P w K mg base CX0 1 f fd ["hand", "box", "number"] (sp_put_in K) := by
  refine fok F sc_put_in (fun vs H Q E h => ?_) (fun cdv A outer s H vs Q E hr h => ?_)
  · obtain ⟨_, _, _, _, _, _, _, _, rfl, _⟩ := h
    rfl
  · obtain ⟨x, C, dx, hd, fs, held, b, n, rfl, hx, hc, hn, hl, hH, h8, hb, q⟩ := h
    obtain ⟨rest, hocc⟩ := letter_ix b hb
    refine ⟨_, (pss_one (ps_asg (pv 2) (pg_sub (pe_fld (pv 0) rfl) (pe_m1 PySem.F.slot_str_index PySem.F.type_str_index mt_sindex (pe_gl T.g_LETTERS) (pv 1)) set_list))), ?_⟩
    refine ⟨_, rfl, _, rfl, x, C, dx, fs, _, rfl, hx, hc, hn, hl, ⟨_, rfl⟩, _, rfl, _, _, _, _, rfl, rfl, hocc, _, _, _, _, rfl, rfl, hH, ixN_nat (by rw [List.length_map]; omega), ?_⟩
    rw [← List.map_set]
    exact q
end
end K72

set_option Elab.async false
set_option linter.all false
set_option maxRecDepth 100000
set_option maxHeartbeats 4000000
/-! a hand in the heap; do_own, lead_on, do_touch -/
namespace K72
open PySem PySem.Spec PyProof.Rows L2 TL
local macro_rules | `(tactic| walk_at "nz") => `(tactic| (show ¬ (_ : Int) = 0; decide))
structure HC (K : PySem.W.Frag) (C : Addr) : Prop where
  cl : Cls K C
  rows : NoAttr K C "rows"
  pos : NoAttr K C "at"
  held : NoAttr K C "held"
  spoken : NoAttr K C "spoken"
  way : NoAttr K C "way"
def hfs (r : Addr) (k : Int) (hd sp : Addr) (w : Str) : List (Str × V) := [("rows", .ref r), ("at", .int k), ("held", .ref hd), ("spoken", .ref sp), ("way", .str w)]
section
variable {r hd sp : Addr} {k : Int} {w : Str}
theorem hfs_rows : (hfs r k hd sp w).lookup ("rows" : Str) = some (V.ref r) := rfl
theorem hfs_at : (hfs r k hd sp w).lookup ("at" : Str) = some (V.int k) := rfl
theorem hfs_held : (hfs r k hd sp w).lookup ("held" : Str) = some (V.ref hd) := rfl
theorem hfs_spoken : (hfs r k hd sp w).lookup ("spoken" : Str) = some (V.ref sp) := rfl
theorem hfs_way : (hfs r k hd sp w).lookup ("way" : Str) = some (V.str w) := rfl
theorem put_at (j : Int) : putF "at" (.int j) (hfs r k hd sp w) = hfs r j hd sp w := rfl
theorem put_way (u : Str) : putF "way" (.str u) (hfs r k hd sp w) = hfs r k hd sp u := rfl
theorem hfs_len : (hfs r k hd sp w).length < 1000 := by show 5 < 1000; decide
end
structure HandAt (H : Hp) (C x r hd sp : Addr) (h : Hn) : Prop where
  ins : ∃ dx, H x = some (.ins C dx (hfs r (h.pos : Int) hd sp h.way.txt))
  rows : ∃ vs, H r = some (.lst vs) ∧ RowsAt H vs h.rows
  held : H hd = some (.lst (h.held.map V.int))
  spoken : ∃ xs, H sp = some (.lst xs) ∧ xs.length = h.said
  n1 : r ≠ hd
  n2 : r ≠ sp
  n3 : hd ≠ sp
abbrev Kp3 (x hd sp : Addr) (H H' : Hp) : Prop := ∀ p o, H p = some o → p ≠ x → p ≠ hd → p ≠ sp → H' p = some o
theorem Kp3.refl (x hd sp : Addr) (H : Hp) : Kp3 x hd sp H H := fun _ _ e _ _ _ => e
theorem Kp3.trans {x hd sp : Addr} {H H1 H2 : Hp} (a : Kp3 x hd sp H H1) (b : Kp3 x hd sp H1 H2) : Kp3 x hd sp H H2 := fun p o e n1 n2 n3 => b p o (a p o e n1 n2 n3) n1 n2 n3
theorem Kp3.of {x hd sp : Addr} {H H' : Hp} (s : Same H H') : Kp3 x hd sp H H' := fun p o e _ _ _ => s p o e
theorem Kp3.x {x hd sp : Addr} {H : Hp} (o : HO) : Kp3 x hd sp H (upd H x o) := fun p _ e n _ _ => by rw [upd_ne n]; exact e
theorem Kp3.hd {x hd sp : Addr} {H : Hp} (o : HO) : Kp3 x hd sp H (upd H hd o) := fun p _ e _ n _ => by rw [upd_ne n]; exact e
theorem Kp3.sp {x hd sp : Addr} {H : Hp} (o : HO) : Kp3 x hd sp H (upd H sp o) := fun p _ e _ _ n => by rw [upd_ne n]; exact e
theorem Kp3.same {x hd sp : Addr} {H0 H H' : Hp} (k : Kp3 x hd sp H H') (s : Same H0 H) (a : H0 x = none) (b : H0 hd = none) (c : H0 sp = none) : Same H0 H' :=
  fun p o e => k p o (s p o e) (ne_of_none e a) (ne_of_none e b) (ne_of_none e c)
section
variable {H H' : Hp} {C x r hd sp : Addr} {h : Hn}
theorem HandAt.nr (k : HandAt H C x r hd sp h) : x ≠ r ∧ x ≠ hd ∧ x ≠ sp := by
  obtain ⟨dx, e⟩ := k.ins
  obtain ⟨vs, e2, _⟩ := k.rows
  obtain ⟨xs, e3, _⟩ := k.spoken
  exact ⟨ne_of e e2 (fun z => by cases z), ne_of e k.held (fun z => by cases z), ne_of e e3 (fun z => by cases z)⟩
theorem HandAt.keep (k : HandAt H C x r hd sp h) (kp : ∀ p o, H p = some o → (p = x ∨ p = r ∨ p = hd ∨ p = sp) → H' p = some o) (ts : TS H H') : HandAt H' C x r hd sp h := by
  obtain ⟨⟨dx, e⟩, ⟨vs, e2, e3⟩, e4, ⟨xs, e5, e6⟩, a, b, c⟩ := k
  exact ⟨⟨dx, kp _ _ e (.inl rfl)⟩, ⟨vs, kp _ _ e2 (.inr (.inl rfl)), e3.ts ts⟩, kp _ _ e4 (.inr (.inr (.inl rfl))), ⟨xs, kp _ _ e5 (.inr (.inr (.inr rfl))), e6⟩, a, b, c⟩
theorem HandAt.same (k : HandAt H C x r hd sp h) (s : Same H H') : HandAt H' C x r hd sp h := k.keep (fun p o e _ => s p o e) (TS.of s)
/-- tuples stand where only the hand's own things change -/
theorem HandAt.ts (k : HandAt H C x r hd sp h) (kp : Kp3 x hd sp H H') : TS H H' := fun a xs e => by
  obtain ⟨dx, e1⟩ := k.ins
  obtain ⟨ys, e3, _⟩ := k.spoken
  exact kp a _ e (ne_of e e1 (fun z => by cases z)) (ne_of e k.held (fun z => by cases z)) (ne_of e e3 (fun z => by cases z))
theorem HandAt.go (k : HandAt H C x r hd sp h) {dx : Addr} (e : H x = some (.ins C dx (hfs r (h.pos : Int) hd sp h.way.txt))) (j : Nat) (w : Way) : HandAt (upd H x (.ins C dx (hfs r (j : Int) hd sp w.txt))) C x r hd sp { h with pos := j, way := w } := by
  obtain ⟨n1, n2, n3⟩ := k.nr
  have ts := k.ts (Kp3.x (H := H) (x := x) (hd := hd) (sp := sp) (.ins C dx (hfs r (j : Int) hd sp w.txt)))
  obtain ⟨_, ⟨vs, e2, e3⟩, e4, ⟨xs, e5, e6⟩, a, b, c⟩ := k
  exact ⟨⟨dx, upd_same⟩, ⟨vs, by rw [upd_ne n1.symm]; exact e2, e3.ts ts⟩, by rw [upd_ne n2.symm]; exact e4, ⟨xs, by rw [upd_ne n3.symm]; exact e5, e6⟩, a, b, c⟩
theorem HandAt.hold (k : HandAt H C x r hd sp h) (ns : List Int) : HandAt (upd H hd (.lst (ns.map V.int))) C x r hd sp { h with held := ns } := by
  obtain ⟨n1, n2, n3⟩ := k.nr
  have ts := k.ts (Kp3.hd (H := H) (x := x) (hd := hd) (sp := sp) (.lst (ns.map V.int)))
  obtain ⟨⟨dx, e⟩, ⟨vs, e2, e3⟩, e4, ⟨xs, e5, e6⟩, a, b, c⟩ := k
  exact ⟨⟨dx, by rw [upd_ne n2]; exact e⟩, ⟨vs, by rw [upd_ne a]; exact e2, e3.ts ts⟩, upd_same, ⟨xs, by rw [upd_ne c.symm]; exact e5, e6⟩, a, b, c⟩
theorem HandAt.say (k : HandAt H C x r hd sp h) {xs : List V} (e : H sp = some (.lst xs)) (v : V) : HandAt (upd H sp (.lst (xs ++ [v]))) C x r hd sp { h with said := h.said + 1 } := by
  obtain ⟨n1, n2, n3⟩ := k.nr
  have ts := k.ts (Kp3.sp (H := H) (x := x) (hd := hd) (sp := sp) (.lst (xs ++ [v])))
  obtain ⟨⟨dx, e1⟩, ⟨vs, e2, e3⟩, e4, ⟨ys, e5, e6⟩, a, b, c⟩ := k
  rw [e] at e5
  cases e5
  exact ⟨⟨dx, by rw [upd_ne n3]; exact e1⟩, ⟨vs, by rw [upd_ne b]; exact e2, e3.ts ts⟩, by rw [upd_ne c]; exact e4, ⟨_, upd_same, by rw [List.length_append, e6] <;> rfl⟩, a, b, c⟩
end
def sp_do_own (C : Addr) : Sp := fun vs H Q _ => ∃ (x r hd sp : Addr) (h : Hn) (cells : Nat) (v : V) (rr : Rw), vs = [.ref x, v] ∧ HandAt H C x r hd sp h ∧ h.ok cells ∧ RwAt H v rr ∧ rr.touch = false ∧ rr.ok cells h.rows.length ∧ h.said ≤ 10000 ∧
  ∀ H', HandAt H' C x r hd sp (h.own rr) → Kp3 x hd sp H H' → Q .non H'
def sp_lead_on (C : Addr) : Sp := fun vs H Q _ => ∃ (x r hd sp : Addr) (h : Hn) (cells : Nat), vs = [.ref x] ∧ HandAt H C x r hd sp h ∧ h.ok cells ∧ h.said ≤ 5000 ∧ ∀ H', HandAt H' C x r hd sp (Hn.lead 60 h) → Kp3 x hd sp H H' → Q .non H'
def sp_do_touch (C : Addr) : Sp := fun vs H Q _ => ∃ (x r hd sp sh : Addr) (h : Hn) (cells : Nat) (ns : List Int), vs = [.ref x, .ref sh] ∧ HandAt H C x r hd sp h ∧ h.ok cells ∧ h.stop = some .waits ∧ H sh = some (.lst (ns.map V.int)) ∧ ns.length = cells ∧
  sh ≠ r ∧ sh ≠ hd ∧ sh ≠ sp ∧ ∀ t H', HandAt H' C x r hd sp (h.hit (ns.getD h.cell 0)).1 → H' sh = some (.lst (((h.hit (ns.getD h.cell 0)).2.wr ns).map V.int)) → H' t = some (.tup (h.hit (ns.getD h.cell 0)).2.vs) → H t = none →
  (∀ p o, H p = some o → p ≠ x → p ≠ hd → p ≠ sp → p ≠ sh → H' p = some o) → Q (.ref t) H'
section
variable {P : Program} {w : World} {K : PySem.W.Frag} {mg : Str → Option Value} {base : Heap} {f : Addr} {fd : FuncData}
theorem sc_do_own : FnScope ["hand", "row"] ["hand", "row"] (defScope s_do_own) := ⟨rfl, rfl, rfl, by decide +kernel, rfl, by decide +kernel, by decide +kernel⟩
theorem ok_do_own {C : Addr} (T : Txt K mg) (hC : HC K C) (F : FnP K "do_own" "do_own" s_do_own [] f fd) (h_worth_now : Def1 P w K mg base "worth_now" ["held", "told"] [] 3 sp_worth) (h_is_so : Def1 P w K mg base "is_so" ["held", "sign", "one", "other"] [] 4 sp_is_so)
    (h_put_in : Def1 P w K mg base "put_in" ["hand", "box", "number"] [] 1 (sp_put_in K)) : FnOk P w K mg base CX0 5 f fd ["hand", "row"] (sp_do_own C) := by
  refine fok F sc_do_own (fun vs H Q E h => ?_) (fun cdv A outer s H vs Q E hr h => ?_)
  · obtain ⟨_, _, _, _, _, _, _, _, rfl, _⟩ := h
    rfl
  · obtain ⟨x, r, hd, sp, h, cells, v, rr, rfl, hA, hok, hv, hto, hrr, hsaid, q⟩ := h
    refine ⟨_, (pss_cons (ps_fldaug (pv 0) pe_int in_add)
  (pss_one (ps_if (pt_cmpR op_eq (pe_ix ix_tup (pv 1) pe_int (fun _ _ => rfl)) pe_str (nomark _))
  (pss_one (ps_expr (pe_cl h_put_in hr (pa_cons (pv 0) (pa_cons (pe_ix ix_tup (pv 1) pe_int (fun _ _ => rfl)) (pa_cons (pe_cl h_worth_now hr (pa_cons (pe_fld (pv 0) rfl) (pa_cons (pe_ix ix_tup (pv 1) pe_int (fun _ _ => rfl)) pa_nil))) pa_nil))))))
  (pss_one (ps_if (pt_cmpR op_eq (pe_ix ix_tup (pv 1) pe_int (fun _ _ => rfl)) pe_str (nomark _))
  (pss_one (ps_expr (pe_bm PySem.F.plainAttrs_list PySem.F.slot_list_append PySem.F.type_list_append mt_append (pe_fld (pv 0) rfl) (pa_cons (pe_cl h_worth_now hr (pa_cons (pe_fld (pv 0) rfl) (pa_cons (pe_ix ix_tup (pv 1) pe_int (fun _ _ => rfl)) pa_nil))) pa_nil))))
  (pss_one (ps_if (pt_cmpR op_eq (pe_ix ix_tup (pv 1) pe_int (fun _ _ => rfl)) pe_str (nomark _))
  (pss_one (ps_fld (pv 0) (pe_ix ix_tup (pv 1) pe_int (fun _ _ => rfl)) rfl))
  (pss_one (ps_if (pt_not (pt_val (pe_cl h_is_so hr (pa_cons (pe_fld (pv 0) rfl) (pa_cons (pe_ix ix_tup (pv 1) pe_int (fun _ _ => rfl)) (pa_cons (pe_ix ix_tup (pv 1) pe_int (fun _ _ => rfl)) (pa_cons (pe_ix ix_tup (pv 1) pe_int (fun _ _ => rfl)) pa_nil)))))))
  (pss_one (ps_fld (pv 0) (pe_ix ix_tup (pv 1) pe_int (fun _ _ => rfl)) rfl))
  pss_nil))))))))), ?_⟩
    obtain ⟨dx, hx⟩ := hA.ins
    have e1 : (h.pos : Int) + 1 = ((h.pos + 1 : Nat) : Int) := by omega
    refine ⟨_, rfl, x, C, dx, _, _, rfl, hx, hC.cl, hC.pos, hfs_at, _, _, rfl, rfl, dx, _, hx, hfs_len, ?_⟩
    rw [put_at, e1]
    have hA1 := hA.go hx (h.pos + 1) h.way
    have k1 : Kp3 x hd sp H (upd H x (.ins C dx (hfs r ((h.pos + 1 : Nat) : Int) hd sp h.way.txt))) := Kp3.x _
    have hv1 := hv.ts (hA.ts k1)
    generalize upd H x (.ins C dx (hfs r ((h.pos + 1 : Nat) : Int) hd sp h.way.txt)) = H1 at hA1 k1 hv1
    obtain ⟨dx1, hx1⟩ := hA1.ins
    cases rr with
    | load b c => cases hto
    | store c e => cases hto
    | swap b c e => cases hto
    | let_ b e =>
      obtain ⟨t, ve, rfl, ht, hw⟩ := hv1
      refine ⟨_, rfl, _, _, _, _, rfl, rfl, SqT.of ht, rfl, rfl, _, rfl, iteY rfl ?_⟩
      refine ⟨_, rfl, _, rfl, _, _, _, _, rfl, rfl, SqT.of ht, rfl, _, rfl, x, C, dx1, _, _, rfl, hx1, hC.cl, hC.held, hfs_held, _, rfl, _, _, _, _, rfl, rfl, SqT.of ht, rfl, ?_⟩
      refine ⟨hd, ve, h.held, e, rfl, hA1.held, hok.held, hw, hrr.2, trivial, ?_⟩
      refine ⟨x, C, dx1, hd, _, h.held, b, _, rfl, hx1, hC.cl, hC.held, hfs_held, hA1.held, hok.held, hrr.1, ?_⟩
      exact q _ (hA1.hold _) (k1.trans (Kp3.hd _))
    | say e =>
      obtain ⟨t, ve, rfl, ht, hw⟩ := hv1
      obtain ⟨xs, hsp, hxl⟩ := hA1.spoken
      refine ⟨_, rfl, _, _, _, _, rfl, rfl, SqT.of ht, rfl, rfl, _, rfl, iteN (by decide +kernel) ?_⟩
      refine ⟨_, rfl, _, _, _, _, rfl, rfl, SqT.of ht, rfl, rfl, _, rfl, iteY rfl ?_⟩
      refine ⟨_, rfl, x, C, dx1, _, _, rfl, hx1, hC.cl, hC.spoken, hfs_spoken, .inl ⟨rfl, _, SqL.of hsp⟩, _, rfl, x, C, dx1, _, _, rfl, hx1, hC.cl, hC.held, hfs_held, _, rfl, _, _, _, _, rfl, rfl, SqT.of ht, rfl, ?_⟩
      refine ⟨hd, ve, h.held, e, rfl, hA1.held, hok.held, hw, hrr, trivial, ?_⟩
      refine ⟨sp, xs, _, rfl, rfl, hsp, Nat.lt_of_le_of_lt (by have h2 : xs.length = h.said := hxl; omega : xs.length ≤ 10000) (by decide), ?_⟩
      exact q _ (hA1.say hsp _) (k1.trans (Kp3.sp _))
    | go k =>
      obtain ⟨t, rfl, ht⟩ := hv1
      refine ⟨_, rfl, _, _, _, _, rfl, rfl, SqT.of ht, rfl, rfl, _, rfl, iteN (by decide +kernel) ?_⟩
      refine ⟨_, rfl, _, _, _, _, rfl, rfl, SqT.of ht, rfl, rfl, _, rfl, iteN (by decide +kernel) ?_⟩
      refine ⟨_, rfl, _, _, _, _, rfl, rfl, SqT.of ht, rfl, rfl, _, rfl, iteY rfl ?_⟩
      refine ⟨_, rfl, _, _, _, _, rfl, rfl, SqT.of ht, rfl, _, rfl, x, C, dx1, _, rfl, hx1, hC.cl, hC.pos, hfs_len, ?_⟩
      rw [put_at]
      exact q _ (hA1.go hx1 k h.way) (k1.trans (Kp3.x _))
    | unl g y z k =>
      obtain ⟨t, vy, vz, rfl, ht, hy, hz⟩ := hv1
      refine ⟨_, rfl, _, _, _, _, rfl, rfl, SqT.of ht, rfl, rfl, _, rfl, iteN (by decide +kernel) ?_⟩
      refine ⟨_, rfl, _, _, _, _, rfl, rfl, SqT.of ht, rfl, rfl, _, rfl, iteN (by decide +kernel) ?_⟩
      refine ⟨_, rfl, _, _, _, _, rfl, rfl, SqT.of ht, rfl, rfl, _, rfl, iteN (by decide +kernel) ?_⟩
      refine ⟨_, rfl, x, C, dx1, _, _, rfl, hx1, hC.cl, hC.held, hfs_held, _, rfl, _, _, _, _, rfl, rfl, SqT.of ht, rfl, _, rfl, _, _, _, _, rfl, rfl, SqT.of ht, rfl, _, rfl, _, _, _, _, rfl, rfl, SqT.of ht, rfl, ?_⟩
      refine ⟨hd, vy, vz, h.held, g, y, z, rfl, hA1.held, hok.held, hy, hrr.1, hz, hrr.2.1, _, rfl, ?_⟩
      have eo : h.own (.unl g y z k) = { h with pos := if so h.held g y z then h.pos + 1 else k } := rfl
      rw [eo] at q
      cases hso : so h.held g y z with
      | true =>
        rw [hso] at q
        exact q _ hA1 k1
      | false =>
        rw [hso] at q
        refine iteT ?_
        refine ⟨_, rfl, _, _, _, _, rfl, rfl, SqT.of ht, rfl, _, rfl, x, C, dx1, _, rfl, hx1, hC.cl, hC.pos, hfs_len, ?_⟩
        rw [put_at]
        exact q _ (hA1.go hx1 k h.way) (k1.trans (Kp3.x _))
end
end K72

set_option Elab.async false
set_option linter.all false
set_option maxRecDepth 100000
set_option maxHeartbeats 4000000
/-! lead_on, do_touch -/
namespace K72
open PySem PySem.Spec PyProof.Rows L2 TL
theorem Hn.lead_stop {h : Hn} {w : Way} (e : h.stop = some w) : ∀ n, Hn.lead n h = { h with way := w }
  | 0 => by show { h with way := h.stop.getD .lost } = _; rw [e] <;> rfl
  | n + 1 => by show (match h.stop with | some w => _ | none => _) = _; rw [e]
theorem Hn.lead_none {h : Hn} (e : h.stop = none) (n : Nat) : Hn.lead (n + 1) h = Hn.lead n (h.own h.row) := by show (match h.stop with | some w => _ | none => _) = _; rw [e]
theorem Rw.touches (r : Rw) : inV (V.str r.name) [.str "load", .str "store", .str "swap"] = r.touch := by
  have a : ∀ x ∈ ([("load", true), ("store", true), ("swap", true), ("let", false), ("say", false), ("go", false), ("unless", false)] : List (Str × Bool)), inV (V.str x.1) [.str "load", .str "store", .str "swap"] = x.2 := by decide +kernel
  cases r with
  | load b c => exact a ("load", true) (by simp)
  | store c e => exact a ("store", true) (by simp)
  | swap b c e => exact a ("swap", true) (by simp)
  | let_ b e => exact a ("let", false) (by simp)
  | say e => exact a ("say", false) (by simp)
  | go k => exact a ("go", false) (by simp)
  | unl q x y k => exact a ("unless", false) (by simp)
theorem HandAt.other {H : Hp} {C x r hd sp sh : Addr} {h : Hn} {xs ys : List V} (k : HandAt H C x r hd sp h) (hS : H sh = some (.lst xs)) (n1 : sh ≠ r) (n2 : sh ≠ hd) (n3 : sh ≠ sp) : HandAt (upd H sh (.lst ys)) C x r hd sp h := by
  obtain ⟨dx, e⟩ := k.ins
  have nx : x ≠ sh := ne_of e hS (fun z => by cases z)
  refine k.keep (fun p o e h => ?_) (TS.upd hS (fun xs e => by cases e))
  rw [upd_ne (by rcases h with rfl | rfl | rfl | rfl <;> first | exact nx | exact Ne.symm (by assumption))]
  exact e
theorem free_upd {H : Hp} {a u : Addr} {o o' : HO} (e : H a = some o') (h : upd H a o u = none) : H u = none := by
  by_cases z : u = a
  · rw [z, upd_same] at h; cases h
  · rw [upd_ne z] at h; exact h
theorem set_getD {ns : List Int} {c : Nat} (h : c < ns.length) (v : Int) : (ns.set c v).getD c 0 = v := by
  rw [List.getD_eq_getElem?_getD, List.getElem?_set_self h] <;> rfl
section
variable {P : Program} {w : World} {K : PySem.W.Frag} {mg : Str → Option Value} {base : Heap} {f : Addr} {fd : FuncData}
theorem sc_lead_on : FnScope ["hand", "done", "row"] ["hand"] (defScope s_lead_on) := ⟨rfl, rfl, rfl, by decide +kernel, rfl, by decide +kernel, by decide +kernel⟩
theorem ok_lead_on {C : Addr} (T : Txt K mg) (hC : HC K C) (F : FnP K "lead_on" "lead_on" s_lead_on [] f fd) (h_do_own : Def1 P w K mg base "do_own" ["hand", "row"] [] 5 (sp_do_own C)) : FnOk P w K mg base CX0 6 f fd ["hand"] (sp_lead_on C) := by
  refine fok F sc_lead_on (fun vs H Q E h => ?_) (fun cdv A outer s H vs Q E hr h => ?_)
  · obtain ⟨_, _, _, _, _, _, rfl, _⟩ := h
    rfl
  · obtain ⟨x, r, hd, sp, h, cells, rfl, hA, hok, hsaid, q⟩ := h
    refine ⟨_, (pss_cons (ps_for PassesOwn.never rfl (pi_range1 rfl T.n_range (pa_cons (pe_op op_add (pe_gl T.g_MOST_OWN) pe_int) pa_nil)) (pg_name (i := 1) sc_lead_on.nd rfl (Or.inl rfl))
  (pss_cons (ps_if (pt_cmpR op_eq (pe_fld (pv 0) rfl) (pe_callB call_len_seq (by rfl) T.n_len (by decide +kernel) (pa_cons (pe_fld (pv 0) rfl) pa_nil)) (nomark _))
  (pss_cons (ps_fld (pv 0) pe_str rfl)
  (pss_one ps_retN))
  pss_nil)
  (pss_cons (ps_set (i := 2) sc_lead_on.nd rfl (Or.inl rfl) (pe_ix ix_list (pe_fld (pv 0) rfl) (pe_fld (pv 0) rfl) (fun _ _ => rfl)))
  (pss_cons (ps_if (pt_cmpR op_in_seq (pe_ix ix_tup (pv 2) pe_int (fun _ _ => rfl)) (pe_tup (pa_cons pe_str (pa_cons pe_str (pa_cons pe_str pa_nil)))) (by rfl))
  (pss_cons (ps_fld (pv 0) pe_str rfl)
  (pss_one ps_retN))
  pss_nil)
  (pss_one (ps_if (pt_cmpR op_lt (pv 1) (pe_gl T.g_MOST_OWN) (nomark _))
  (pss_one (ps_expr (pe_cl h_do_own hr (pa_cons (pv 0) (pa_cons (pv 2) pa_nil)))))
  pss_nil))))))
  (pss_one (ps_fld (pv 0) pe_str rfl))), ?_⟩
    refine ⟨_, _, rfl, rfl, 61, rfl, by decide, by decide, for_range (n := 61) (fun i σ H' => ∃ (h' : Hn) (v1 v2 : Option V), σ = [some (.ref x), v1, v2] ∧ HandAt H' C x r hd sp h' ∧ h'.ok cells ∧ h'.said ≤ h.said + i ∧ Kp3 x hd sp H H' ∧
        (∀ j, i + j = 60 → Hn.lead 60 h = Hn.lead j h') ∧ (i = 61 → Hn.lead 60 h = { h' with way := .lost }))
      ⟨h, none, none, rfl, hA, hok, Nat.le_refl _, Kp3.refl _ _ _ _, fun j e => by rw [show j = 60 by omega], fun e => by cases e⟩ ?_ ?_⟩
    · rintro i σ H' hi ⟨h', v1, v2, rfl, hA', hok', hsaid', kp, hlead, _⟩
      obtain ⟨j, hj⟩ : ∃ j, i + j = 60 := ⟨60 - i, by omega⟩
      have hl := hlead j hj
      obtain ⟨dx, hx⟩ := hA'.ins
      obtain ⟨vs, hrs, hR⟩ := hA'.rows
      refine ⟨_, rfl, x, C, dx, _, _, rfl, hx, hC.cl, hC.pos, hfs_at, _, rfl, x, C, dx, _, _, rfl, hx, hC.cl, hC.rows, hfs_rows, r, vs, rfl, .inl (SqL.of hrs), rfl, _, rfl, ?_⟩
      by_cases hp : h'.pos < h'.rows.length
      · obtain ⟨er, hm, hrok⟩ := Hn.row_ok hok' hp
        refine iteN (fun e => by have := V.int.inj e; have := hR.1; omega) ?_
        obtain ⟨v, ev, hv⟩ := hR.at er
        refine ⟨_, rfl, x, C, dx, _, _, rfl, hx, hC.cl, hC.rows, hfs_rows, _, rfl, x, C, dx, _, _, rfl, hx, hC.cl, hC.pos, hfs_at, _, _, _, _, rfl, rfl, SqL.of hrs, atI_nat ev, ?_⟩
        obtain ⟨t, xs, rfl, ht, _⟩ := hv.name
        refine ⟨_, rfl, _, _, _, _, rfl, rfl, SqT.of ht, at0, by show 3 ≤ sizeLine; decide, fun p hp0 => ?_⟩
        have S1 := Same.new (o := .tup [.str "load", .str "store", .str "swap"]) hp0
        refine ⟨p, _, rfl, .inr (SqT.of upd_same), rfl, rfl, _, rfl, ?_⟩
        rw [if_neg (fun e => nomatch e), Rw.touches h'.row]
        have hA1 := hA'.same S1
        have k1 := kp.trans (Kp3.of (x := x) (hd := hd) (sp := sp) S1)
        have hv1 := hv.ts (TS.of S1)
        generalize upd H' p (.tup [.str "load", .str "store", .str "swap"]) = H1 at S1 hA1 k1 hv1
        obtain ⟨dx1, hx1⟩ := hA1.ins
        cases hto : h'.row.touch with
        | true =>
          refine iteT ?_
          have hst : h'.stop = some .waits := by
            unfold Hn.stop
            rw [er]
            simp only
            rw [if_pos hto]
          rw [Hn.lead_stop hst] at hl
          refine ⟨_, rfl, x, C, dx1, _, rfl, hx1, hC.cl, hC.way, hfs_len, ?_⟩
          rw [put_way]
          rw [hl] at q
          exact q _ (hA1.go hx1 h'.pos .waits) (k1.trans (Kp3.x _))
        | false =>
          refine iteF ?_
          have hst : h'.stop = none := by
            unfold Hn.stop
            rw [er]
            simp only
            rw [hto]
            rfl
          by_cases h60 : i < 60
          · obtain ⟨j', rfl⟩ : ∃ j', j = j' + 1 := ⟨j - 1, by omega⟩
            rw [Hn.lead_none hst] at hl
            refine ⟨_, rfl, _, _, rfl, rfl, _, rfl, iteY (by omega) ?_⟩
            refine ⟨_, rfl, _, rfl, x, r, hd, sp, h', cells, _, h'.row, rfl, hA1, hok', hv1, hto, hrok, by omega, fun H2 hA2 kp2 => ?_⟩
            obtain ⟨o1, o2, o3⟩ := Hn.own_ok hok' hp hrok
            exact ⟨_, _, _, rfl, hA2, o1, by omega, k1.trans kp2, fun j e => by rw [hl, show j = j' by omega], fun e => by omega⟩
          · refine ⟨_, rfl, _, _, rfl, rfl, _, rfl, iteN (by omega) ?_⟩
            refine ⟨h', _, _, rfl, hA1, hok', by omega, k1, fun j e => by omega, fun e => ?_⟩
            rw [hl, show j = 0 by omega]
            show { h' with way := h'.stop.getD .lost } = _
            rw [hst] <;> rfl
      · have hpe : h'.pos = h'.rows.length := by have := hok'.pos; omega
        have hst : h'.stop = some .ends := by
          unfold Hn.stop
          rw [List.getElem?_eq_none_iff.mpr (by omega)]
        refine iteY (by rw [hpe, hR.1]) ?_
        rw [Hn.lead_stop hst] at hl
        refine ⟨_, rfl, x, C, dx, _, rfl, hx, hC.cl, hC.way, hfs_len, ?_⟩
        rw [put_way]
        rw [hl] at q
        exact q _ (hA'.go hx h'.pos .ends) (kp.trans (Kp3.x _))
    · rintro σ H' ⟨h', v1, v2, rfl, hA', hok', hsaid', kp, _, hl⟩
      obtain ⟨dx, hx⟩ := hA'.ins
      refine ⟨_, rfl, x, C, dx, _, rfl, hx, hC.cl, hC.way, hfs_len, ?_⟩
      rw [put_way]
      rw [hl rfl] at q
      exact q _ (hA'.go hx h'.pos .lost) (kp.trans (Kp3.x _))
theorem sc_do_touch : FnScope ["hand", "shared", "row", "box", "cell", "found"] ["hand", "shared"] (defScope s_do_touch) := ⟨rfl, rfl, rfl, by decide +kernel, rfl, by decide +kernel, by decide +kernel⟩
theorem ok_do_touch {C : Addr} (T : Txt K mg) (hC : HC K C) (F : FnP K "do_touch" "do_touch" s_do_touch [] f fd) (h_worth_now : Def1 P w K mg base "worth_now" ["held", "told"] [] 3 sp_worth)
    (h_put_in : Def1 P w K mg base "put_in" ["hand", "box", "number"] [] 1 (sp_put_in K)) : FnOk P w K mg base CX0 4 f fd ["hand", "shared"] (sp_do_touch C) := by
  refine fok F sc_do_touch (fun vs H Q E h => ?_) (fun cdv A outer s H vs Q E hr h => ?_)
  · obtain ⟨_, _, _, _, _, _, _, _, rfl, _⟩ := h
    rfl
  · obtain ⟨x, r, hd, sp, sh, h, cells, ns, rfl, hA, hok, hst, hS, hns, n1, n2, n3, q⟩ := h
    refine ⟨_, (pss_cons (ps_set (i := 2) sc_do_touch.nd rfl (Or.inl rfl) (pe_ix ix_list (pe_fld (pv 0) rfl) (pe_fld (pv 0) rfl) (fun _ _ => rfl)))
  (pss_cons (ps_fldaug (pv 0) pe_int in_add)
  (pss_cons (ps_if (pt_cmpR op_eq (pe_ix ix_tup (pv 2) pe_int (fun _ _ => rfl)) pe_str (nomark _))
  (pss_cons (ps_asg (pe_cl h_worth_now hr (pa_cons (pe_fld (pv 0) rfl) (pa_cons (pe_ix ix_tup (pv 2) pe_int (fun _ _ => rfl)) pa_nil))) (pg_sub (pv 1) (pe_ix ix_tup (pv 2) pe_int (fun _ _ => rfl)) set_list))
  (pss_one (ps_ret (pe_tup (pa_cons pe_str (pa_cons (pe_ix ix_tup (pv 2) pe_int (fun _ _ => rfl)) (pa_cons pe_non (pa_cons (pe_ix ix_list (pv 1) (pe_ix ix_tup (pv 2) pe_int (fun _ _ => rfl)) (fun _ _ => rfl)) pa_nil))))))))
  pss_nil)
  (pss_cons (ps_par (i := 3) (j := 4) (by rfl) sc_do_touch.nd rfl rfl (by decide) rfl rfl (pa_cons (pe_ix ix_tup (pv 2) pe_int (fun _ _ => rfl)) (pa_cons (pe_ix ix_tup (pv 2) pe_int (fun _ _ => rfl)) pa_nil)) (by rfl))
  (pss_cons (ps_set (i := 5) sc_do_touch.nd rfl (Or.inl rfl) (pe_ix ix_list (pv 1) (pv 4) (fun _ _ => rfl)))
  (pss_cons (ps_if (pt_cmpR op_eq (pe_ix ix_tup (pv 2) pe_int (fun _ _ => rfl)) pe_str (nomark _))
  (pss_cons (ps_expr (pe_cl h_put_in hr (pa_cons (pv 0) (pa_cons (pv 3) (pa_cons (pv 5) pa_nil)))))
  (pss_one (ps_ret (pe_tup (pa_cons pe_str (pa_cons (pv 4) (pa_cons (pv 5) (pa_cons pe_non pa_nil))))))))
  pss_nil)
  (pss_cons (ps_asg (pe_cl h_worth_now hr (pa_cons (pe_fld (pv 0) rfl) (pa_cons (pe_ix ix_tup (pv 2) pe_int (fun _ _ => rfl)) pa_nil))) (pg_sub (pv 1) (pv 4) set_list))
  (pss_cons (ps_expr (pe_cl h_put_in hr (pa_cons (pv 0) (pa_cons (pv 3) (pa_cons (pv 5) pa_nil)))))
  (pss_one (ps_ret (pe_tup (pa_cons pe_str (pa_cons (pv 4) (pa_cons (pv 5) (pa_cons (pe_ix ix_list (pv 1) (pv 4) (fun _ _ => rfl)) pa_nil))))))))))))))), ?_⟩
    obtain ⟨hp, hto⟩ := Hn.stop_waits hst
    obtain ⟨er, hm, hrok⟩ := Hn.row_ok hok hp
    obtain ⟨dx, hx⟩ := hA.ins
    obtain ⟨vs, hrs, hR⟩ := hA.rows
    obtain ⟨v, ev, hv⟩ := hR.at er
    have nx : sh ≠ x := ne_of hS hx (fun z => by cases z)
    refine ⟨_, rfl, x, C, dx, _, _, rfl, hx, hC.cl, hC.rows, hfs_rows, _, rfl, x, C, dx, _, _, rfl, hx, hC.cl, hC.pos, hfs_at, _, _, _, _, rfl, rfl, SqL.of hrs, atI_nat ev, ?_⟩
    have e1 : (h.pos : Int) + 1 = ((h.pos + 1 : Nat) : Int) := by omega
    refine ⟨_, rfl, x, C, dx, _, _, rfl, hx, hC.cl, hC.pos, hfs_at, _, _, rfl, rfl, dx, _, hx, hfs_len, ?_⟩
    rw [put_at, e1]
    have hA1 := hA.go hx (h.pos + 1) h.way
    have k1 : Kp3 x hd sp H (upd H x (.ins C dx (hfs r ((h.pos + 1 : Nat) : Int) hd sp h.way.txt))) := Kp3.x _
    have hv1 := hv.ts (hA.ts k1)
    have hS1 : (upd H x (.ins C dx (hfs r ((h.pos + 1 : Nat) : Int) hd sp h.way.txt))) sh = some (.lst (ns.map V.int)) := by rw [upd_ne nx]; exact hS
    have hfr : ∀ t, (upd H x (.ins C dx (hfs r ((h.pos + 1 : Nat) : Int) hd sp h.way.txt))) t = none → H t = none := fun t ht => by
      by_cases e : t = x
      · rw [e, upd_same] at ht; cases ht
      · rw [upd_ne e] at ht; exact ht
    generalize upd H x (.ins C dx (hfs r ((h.pos + 1 : Nat) : Int) hd sp h.way.txt)) = H1 at hA1 k1 hv1 hS1 hfr
    obtain ⟨dx1, hx1⟩ := hA1.ins
    -- what a heap keeps when sh, hd are written and a tuple is new
    cases hrow : h.row with
    | let_ b e => rw [hrow] at hto; cases hto
    | say e => rw [hrow] at hto; cases hto
    | go k => rw [hrow] at hto; cases hto
    | unl g y z k => rw [hrow] at hto; cases hto
    | store c e =>
      rw [hrow] at hv1 hrok
      obtain ⟨t, ve, rfl, ht, hw⟩ := hv1
      have hcell : h.cell = c := by unfold Hn.cell; rw [hrow]; rfl
      have hhit : h.hit (ns.getD h.cell 0) = ({ h with pos := h.pos + 1 }, ⟨.store, c, none, some (e.now h.held)⟩) := by unfold Hn.hit; rw [hrow]
      rw [hhit] at q
      have hc : c < ns.length := by have := hrok.1; omega
      refine ⟨_, rfl, _, _, _, _, rfl, rfl, SqT.of ht, rfl, rfl, _, rfl, iteY rfl ?_⟩
      refine ⟨_, rfl, x, C, dx1, _, _, rfl, hx1, hC.cl, hC.held, hfs_held, _, rfl, _, _, _, _, rfl, rfl, SqT.of ht, rfl, ?_⟩
      refine ⟨hd, ve, h.held, e, rfl, hA1.held, hok.held, hw, hrok.2, trivial, ?_⟩
      refine ⟨_, rfl, _, rfl, _, _, _, _, rfl, rfl, SqT.of ht, rfl, sh, _, _, _, rfl, rfl, hS1, ixN_nat (by rw [List.length_map]; exact hc), ?_⟩
      rw [← List.map_set]
      have nt : t ≠ sh := ne_of ht hS1 (fun z => by cases z)
      have ht2 : (upd H1 sh (.lst ((ns.set c (e.now h.held)).map V.int))) t = some _ := (upd_ne nt).trans ht
      refine ⟨_, rfl, _, _, _, _, rfl, rfl, SqT.of ht2, rfl, _, rfl, _, rfl, _, _, _, _, rfl, rfl, SqT.of ht2, rfl, _, _, _, _, rfl, rfl, SqL.of upd_same, held_at (by rw [List.length_set]; exact hc), by show 4 ≤ sizeLine; decide, fun u hu => ?_⟩
      rw [set_getD hc]
      have hu1 : H1 u = none := free_upd hS1 hu
      refine q u _ (((hA1.other hS1 n1 n2 n3).same (Same.new hu))) ?_ upd_same (hfr u hu1) (fun p o e a b c d => ?_)
      · rw [upd_ne (fun z => by rw [← z, upd_same] at hu; cases hu), upd_same]
        rfl
      · have e1 := k1 p o e a b c
        rw [upd_ne (ne_of_none e1 hu1), upd_ne d]
        exact e1
    | load b c =>
      rw [hrow] at hv1 hrok
      obtain ⟨t, rfl, ht⟩ := hv1
      have hcell : h.cell = c := by unfold Hn.cell; rw [hrow]; rfl
      have hhit : h.hit (ns.getD h.cell 0) = ({ h with pos := h.pos + 1, held := h.held.set b (ns.getD c 0) }, ⟨.load, c, some (ns.getD c 0), none⟩) := by unfold Hn.hit; rw [hrow, hcell]
      rw [hhit] at q
      have hc : c < ns.length := by have := hrok.2; omega
      refine ⟨_, rfl, _, _, _, _, rfl, rfl, SqT.of ht, rfl, rfl, _, rfl, iteN (by decide +kernel) ?_⟩
      refine ⟨_, rfl, _, _, _, _, rfl, rfl, SqT.of ht, rfl, _, rfl, _, _, _, _, rfl, rfl, SqT.of ht, rfl, _, _, rfl, ?_⟩
      refine ⟨_, rfl, _, rfl, _, _, _, _, rfl, rfl, SqL.of hS1, held_at hc, ?_⟩
      refine ⟨_, rfl, _, _, _, _, rfl, rfl, SqT.of ht, rfl, rfl, _, rfl, iteY rfl ?_⟩
      refine ⟨_, rfl, _, rfl, _, rfl, x, C, dx1, hd, _, h.held, b, _, rfl, hx1, hC.cl, hC.held, hfs_held, hA1.held, hok.held, hrok.1, ?_⟩
      refine ⟨_, rfl, _, rfl, by show 4 ≤ sizeLine; decide, fun u hu => ?_⟩
      have hu1 : H1 u = none := free_upd hA1.held hu
      refine q u _ ((hA1.hold _).same (Same.new hu)) ?_ upd_same (hfr u hu1) (fun p o e a b c d => ?_)
      · rw [upd_ne (ne_of_none hS1 hu1), upd_ne n2]
        exact hS1
      · have e1 := k1 p o e a b c
        rw [upd_ne (ne_of_none e1 hu1), upd_ne b]
        exact e1
    | swap b c e =>
      rw [hrow] at hv1 hrok
      obtain ⟨t, ve, rfl, ht, hw⟩ := hv1
      have hcell : h.cell = c := by unfold Hn.cell; rw [hrow]; rfl
      have hhit : h.hit (ns.getD h.cell 0) = ({ h with pos := h.pos + 1, held := h.held.set b (ns.getD c 0) }, ⟨.swap, c, some (ns.getD c 0), some (e.now h.held)⟩) := by unfold Hn.hit; rw [hrow, hcell]
      rw [hhit] at q
      have hc : c < ns.length := by have := hrok.2.1; omega
      refine ⟨_, rfl, _, _, _, _, rfl, rfl, SqT.of ht, rfl, rfl, _, rfl, iteN (by decide +kernel) ?_⟩
      refine ⟨_, rfl, _, _, _, _, rfl, rfl, SqT.of ht, rfl, _, rfl, _, _, _, _, rfl, rfl, SqT.of ht, rfl, _, _, rfl, ?_⟩
      refine ⟨_, rfl, _, rfl, _, _, _, _, rfl, rfl, SqL.of hS1, held_at hc, ?_⟩
      refine ⟨_, rfl, _, _, _, _, rfl, rfl, SqT.of ht, rfl, rfl, _, rfl, iteN (by decide +kernel) ?_⟩
      refine ⟨_, rfl, x, C, dx1, _, _, rfl, hx1, hC.cl, hC.held, hfs_held, _, rfl, _, _, _, _, rfl, rfl, SqT.of ht, rfl, ?_⟩
      refine ⟨hd, ve, h.held, e, rfl, hA1.held, hok.held, hw, hrok.2.2, trivial, ?_⟩
      refine ⟨_, rfl, _, rfl, sh, _, _, _, rfl, rfl, hS1, ixN_nat (by rw [List.length_map]; exact hc), ?_⟩
      rw [← List.map_set]
      have hA2 := hA1.other (ys := (ns.set c (e.now h.held)).map V.int) hS1 n1 n2 n3
      obtain ⟨dx2, hx2⟩ := hA2.ins
      refine ⟨_, rfl, _, rfl, _, rfl, x, C, dx2, hd, _, h.held, b, _, rfl, hx2, hC.cl, hC.held, hfs_held, hA2.held, hok.held, hrok.1, ?_⟩
      have hS3 : (upd (upd H1 sh (.lst ((ns.set c (e.now h.held)).map V.int))) hd (.lst ((h.held.set b (ns.getD c 0)).map V.int))) sh = some (.lst ((ns.set c (e.now h.held)).map V.int)) := by rw [upd_ne n2, upd_same]
      refine ⟨_, rfl, _, rfl, _, rfl, _, rfl, _, _, _, _, rfl, rfl, SqL.of hS3, held_at (by rw [List.length_set]; exact hc), by show 4 ≤ sizeLine; decide, fun u hu => ?_⟩
      rw [set_getD hc]
      have hu1 : H1 u = none := free_upd hS1 (free_upd hA2.held hu)
      refine q u _ ((hA2.hold _).same (Same.new hu)) ?_ upd_same (hfr u hu1) (fun p o e a b c d => ?_)
      · rw [upd_ne (ne_of_none hS1 hu1)]
        exact hS3
      · have e1 := k1 p o e a b c
        rw [upd_ne (ne_of_none e1 hu1), upd_ne b, upd_ne d]
        exact e1
end
end K72

set_option Elab.async false
set_option linter.all false
set_option maxRecDepth 100000
set_option maxHeartbeats 4000000
/-! Hand.__init__, hand_of, first_numbers -/
namespace K72
open PySem PySem.Spec PyProof.Rows L2 TL
def sp_hand_init (C : Addr) : Sp := fun vs H Q _ => ∃ (x dx l : Addr) (xs : List V) (rows : List Rw), vs = [.ref x, .ref l] ∧ H x = some (.ins C dx []) ∧ H l = some (.lst xs) ∧ RowsAt H xs rows ∧
  ∀ r hd sp H', HandAt H' C x r hd sp ⟨rows, 0, List.replicate 8 0, 0, .waits⟩ → H r = none → H hd = none → H sp = none → Kp1 x H H' → Q .non H'
def sp_hand_of (K : PySem.W.Frag) : Sp := fun vs H Q _ => ∃ (a : Addr) (xs : List V) (i : Nat) (v : V), vs = [.ref a, .int (i : Int)] ∧ SqL K H a xs ∧ xs[i]? = some v ∧ Q v H
def sp_first_numbers : Sp := fun vs H Q _ => ∃ n : Nat, vs = [.int (n : Int), .non] ∧ n ≤ 1000 ∧ ∀ a H', H a = none → H' a = some (.lst ((List.replicate n (0 : Int)).map V.int)) → Same H H' → Q (.ref a) H'
theorem flat_rep (n : Nat) : (List.replicate n [V.int 0]).flatten = (List.replicate n (0 : Int)).map V.int := by
  induction n with
  | zero => rfl
  | succ n ih => rw [List.replicate_succ, List.replicate_succ, List.flatten_cons, ih] <;> rfl
section
variable {P : Program} {w : World} {K : PySem.W.Frag} {mg : Str → Option Value} {base : Heap} {f : Addr} {fd : FuncData}
theorem sc_Hand___init__ : FnScope ["self", "rows"] ["self", "rows"] (defScope s_Hand___init__) := ⟨rfl, rfl, rfl, by decide +kernel, rfl, by decide +kernel, by decide +kernel⟩
theorem ok_hand_init {C : Addr} {x q0 : Str} (T : Txt K mg) (hC : HC K C) (F : FnP K x q0 s_Hand___init__ [] f fd) : FnOk P w K mg base CX0 1 f fd ["self", "rows"] (sp_hand_init C) := by
  refine fok F sc_Hand___init__ (fun vs H Q E h => ?_) (fun cdv A outer s H vs Q E hr h => ?_)
  · obtain ⟨_, _, _, _, _, rfl, _⟩ := h
    rfl
  · obtain ⟨x, dx, l, xs, rows, rfl, hx, hl, hR, q⟩ := h
    refine ⟨_, (pss_cons (ps_fld (pv 0) (pe_callTy call_list_of (by rfl) T.n_list (by decide +kernel) (pa_cons (pv 1) pa_nil)) rfl)
  (pss_cons (ps_fld (pv 0) pe_int rfl)
  (pss_cons (ps_fld (pv 0) (pe_op op_rep (pe_lst (pa_cons pe_int pa_nil)) (pe_callB call_len_str (by rfl) T.n_len (by decide +kernel) (pa_cons (pe_gl T.g_LETTERS) pa_nil))) rfl)
  (pss_cons (ps_fld (pv 0) (pe_lst pa_nil) rfl)
  (pss_one (ps_fld (pv 0) pe_str rfl)))))), ?_⟩
    refine ⟨_, rfl, l, xs, rfl, .inl (SqL.of hl), fun r hr0 => ?_⟩
    have nr : x ≠ r := ne_of_none hx hr0
    have x1 : (upd H r (.lst xs)) x = some (.ins C dx []) := by rw [upd_ne nr]; exact hx
    refine ⟨_, rfl, x, C, dx, _, rfl, x1, hC.cl, hC.rows, by show 0 < 1000; decide, ?_⟩
    have k1 : Kp1 x H (upd (upd H r (.lst xs)) x (.ins C dx (putF "rows" (.ref r) []))) := (Kp1.new hr0).trans (Kp1.upd _)
    have r1 : (upd (upd H r (.lst xs)) x (.ins C dx (putF "rows" (.ref r) []))) r = some (.lst xs) := by rw [upd_ne nr.symm, upd_same]
    have x2 : (upd (upd H r (.lst xs)) x (.ins C dx (putF "rows" (.ref r) []))) x = some (.ins C dx [("rows", .ref r)]) := upd_same
    generalize upd (upd H r (.lst xs)) x (.ins C dx (putF "rows" (.ref r) [])) = H1 at k1 r1 x2
    refine ⟨_, rfl, x, C, dx, _, rfl, x2, hC.cl, hC.pos, by show 1 < 1000; decide, ?_⟩
    have k2 : Kp1 x H (upd H1 x (.ins C dx (putF "at" (.int 0) [("rows", .ref r)]))) := k1.trans (Kp1.upd _)
    have r2 : (upd H1 x (.ins C dx (putF "at" (.int 0) [("rows", .ref r)]))) r = some (.lst xs) := by rw [upd_ne nr.symm]; exact r1
    have x3 : (upd H1 x (.ins C dx (putF "at" (.int 0) [("rows", .ref r)]))) x = some (.ins C dx [("rows", .ref r), ("at", .int 0)]) := upd_same
    generalize upd H1 x (.ins C dx (putF "at" (.int 0) [("rows", .ref r)])) = H2 at k2 r2 x3
    refine ⟨by show 1 ≤ sizeLine; decide, fun l0 hl0 => ?_⟩
    refine ⟨_, rfl, letters_len, l0, 8, _, rfl, rfl, upd_same, by decide, by decide, by show 1 * 8 ≤ sizeLine; decide, fun hd hhd => ?_⟩
    have nhd0 : hd ≠ l0 := fun e => by rw [e, upd_same] at hhd; cases hhd
    have hhd2 : H2 hd = none := by rw [upd_ne nhd0] at hhd; exact hhd
    rw [show (List.replicate (Int.toNat 8) [V.int 0]).flatten = (List.replicate 8 (0 : Int)).map V.int from flat_rep 8]
    have S3 : Same H2 (upd (upd H2 l0 (.lst [.int 0])) hd (.lst ((List.replicate 8 (0 : Int)).map V.int))) := (Same.new hl0).trans (Same.new hhd)
    have h3 : (upd (upd H2 l0 (.lst [.int 0])) hd (.lst ((List.replicate 8 (0 : Int)).map V.int))) hd = some (.lst ((List.replicate 8 (0 : Int)).map V.int)) := upd_same
    generalize upd (upd H2 l0 (.lst [.int 0])) hd (.lst ((List.replicate 8 (0 : Int)).map V.int)) = H3 at S3 h3
    refine ⟨_, rfl, x, C, dx, _, rfl, S3 _ _ x3, hC.cl, hC.held, by show 2 < 1000; decide, ?_⟩
    have nhd : hd ≠ x := fun e => by rw [e, x3] at hhd2; cases hhd2
    have nhr : hd ≠ r := fun e => by rw [e, r2] at hhd2; cases hhd2
    have k4 : Kp1 x H (upd H3 x (.ins C dx (putF "held" (.ref hd) [("rows", .ref r), ("at", .int 0)]))) := k2.trans ((Kp1.of S3).trans (Kp1.upd _))
    have r4 : (upd H3 x (.ins C dx (putF "held" (.ref hd) [("rows", .ref r), ("at", .int 0)]))) r = some (.lst xs) := by rw [upd_ne nr.symm]; exact S3 _ _ r2
    have h4 : (upd H3 x (.ins C dx (putF "held" (.ref hd) [("rows", .ref r), ("at", .int 0)]))) hd = some (.lst ((List.replicate 8 (0 : Int)).map V.int)) := by rw [upd_ne nhd]; exact h3
    have x4 : (upd H3 x (.ins C dx (putF "held" (.ref hd) [("rows", .ref r), ("at", .int 0)]))) x = some (.ins C dx [("rows", .ref r), ("at", .int 0), ("held", .ref hd)]) := upd_same
    have fhd : H hd = none := by
      cases e : H hd with
      | none => rfl
      | some o => rw [k2 _ _ e nhd] at hhd2; cases hhd2
    generalize upd H3 x (.ins C dx (putF "held" (.ref hd) [("rows", .ref r), ("at", .int 0)])) = H4 at k4 r4 h4 x4
    refine ⟨by show 0 ≤ sizeLine; decide, fun sp hsp => ?_⟩
    have nsx : sp ≠ x := fun e => by rw [e, x4] at hsp; cases hsp
    have nsr : r ≠ sp := ne_of_none r4 hsp
    have nsh : hd ≠ sp := ne_of_none h4 hsp
    have fsp : H sp = none := by
      cases e : H sp with
      | none => rfl
      | some o => rw [k4 _ _ e nsx] at hsp; cases hsp
    refine ⟨_, rfl, x, C, dx, _, rfl, (upd_ne nsx.symm).trans x4, hC.cl, hC.spoken, by show 3 < 1000; decide, ?_⟩
    refine ⟨_, rfl, x, C, dx, _, rfl, upd_same, hC.cl, hC.way, by show 4 < 1000; decide, ?_⟩
    rw [upd_upd]
    have k6 : Kp1 x H (upd (upd H4 sp (.lst [])) x (.ins C dx (hfs r 0 hd sp "waits"))) := k4.trans ((Kp1.new hsp).trans (Kp1.upd _))
    have ts : TS H (upd (upd H4 sp (.lst [])) x (.ins C dx (hfs r 0 hd sp "waits"))) := TS.kp k6 hx (fun xs e => by cases e)
    refine q r hd sp _ ⟨⟨dx, upd_same⟩, ⟨xs, ?_, hR.ts ts⟩, ?_, ⟨[], ?_, rfl⟩, Ne.symm nhr, nsr, nsh⟩ hr0 fhd fsp k6
    · rw [upd_ne nr.symm, upd_ne nsr]
      exact r4
    · rw [upd_ne nhd, upd_ne nsh]
      exact h4
    · rw [upd_ne nsx, upd_same]
theorem sc_hand_of : FnScope ["team", "number"] ["team", "number"] (defScope s_hand_of) := ⟨rfl, rfl, rfl, by decide +kernel, rfl, by decide +kernel, by decide +kernel⟩
theorem ok_hand_of (T : Txt K mg) (F : FnP K "hand_of" "hand_of" s_hand_of [] f fd) : FnOk P w K mg base CX0 1 f fd ["team", "number"] (sp_hand_of K) := by
  refine fok F sc_hand_of (fun vs H Q E h => ?_) (fun cdv A outer s H vs Q E hr h => ?_)
  · obtain ⟨_, _, _, _, rfl, _⟩ := h
    rfl
  · obtain ⟨a, xs, i, v, rfl, hA, hi, q⟩ := h
    refine ⟨_, (pss_cons (ps_if (PW.pt (pw_or (pt_cmpR op_lt (pv 1) pe_int (nomark _)) (pw_or1 (pt_cmpR op_ge (pv 1) (pe_callB call_len_seq (by rfl) T.n_len (by decide +kernel) (pa_cons (pv 0) pa_nil)) (nomark _)))))
  (pss_one ps_never)
  pss_nil)
  (pss_one (ps_ret (pe_ix ix_list (pv 0) (pv 1) (fun _ _ => rfl))))), ?_⟩
    have hl := (List.getElem?_eq_some_iff.mp hi).1
    exact ⟨_, rfl, _, _, rfl, rfl, _, rfl, iteN (by omega) ⟨_, rfl, _, rfl, a, xs, rfl, .inl hA, _, _, rfl, rfl, _, rfl, iteN (by omega) ⟨_, rfl, _, rfl, _, _, _, _, rfl, rfl, hA, atI_nat hi, q⟩⟩⟩
theorem sc_first_numbers : FnScope ["many", "numbers", "number"] ["many", "numbers"] (defScope s_first_numbers) := ⟨rfl, rfl, rfl, by decide +kernel, rfl, by decide +kernel, by decide +kernel⟩
theorem ok_first_numbers (T : Txt K mg) (F : FnP K "first_numbers" "first_numbers" s_first_numbers [] f fd) : FnOk P w K mg base CX0 1 f fd ["many", "numbers"] sp_first_numbers := by
  refine fok F sc_first_numbers (fun vs H Q E h => ?_) (fun cdv A outer s H vs Q E hr h => ?_)
  · obtain ⟨_, rfl, _⟩ := h
    rfl
  · obtain ⟨n, rfl, hn, q⟩ := h
    refine ⟨_, (pss_cons (ps_if (pt_cmpR op_isN (pv 1) pe_non (nomark _))
  (pss_one (ps_ret (pe_op op_rep (pe_lst (pa_cons pe_int pa_nil)) (pv 0))))
  pss_nil)
  (pss_cons (ps_if (pt_cmpR op_ne (pe_callB call_len_seq (by rfl) T.n_len (by decide +kernel) (pa_cons (pv 1) pa_nil)) (pv 0) (nomark _))
  (pss_one ps_never)
  pss_nil)
  (pss_cons (ps_for PassesOwn.never rfl (pi_list (pv 1)) (pg_name (i := 2) sc_first_numbers.nd rfl (Or.inl rfl))
  (pss_one (ps_if (PW.pt (pw_or (pt_cmpR op_lt (pv 2) pe_int (nomark _)) (pw_or1 (pt_cmpR op_ge (pv 2) (pe_gl T.g_ROUND) (nomark _)))))
  (pss_one ps_never)
  pss_nil)))
  (pss_one (ps_ret (pe_callTy call_list_of (by rfl) T.n_list (by decide +kernel) (pa_cons (pv 1) pa_nil))))))), ?_⟩
    refine ⟨_, rfl, rfl, _, rfl, iteY rfl ?_⟩
    refine ⟨by show 1 ≤ sizeLine; decide, fun l0 hl0 => ?_⟩
    refine ⟨_, rfl, l0, _, _, rfl, rfl, upd_same, by omega, by omega, szw (by show 1 * ((n : Int)).toNat ≤ 100000; omega), fun a ha => ?_⟩
    have e : ((n : Int)).toNat = n := by omega
    rw [e, flat_rep]
    exact q a _ (by by_cases z : a = l0; (rw [z, upd_same] at ha; cases ha); (rw [upd_ne z] at ha; exact ha)) upd_same ((Same.new hl0).trans (Same.new ha))
end
end K72

set_option Elab.async false
set_option linter.all false
set_option maxRecDepth 100000
set_option maxHeartbeats 4000000
/-! works in the heap: turn, how, counts -/
namespace K72
open PySem PySem.Spec PyProof.Rows L2 TL
structure WC (K : PySem.W.Frag) (C : Addr) : Prop where
  cl : Cls K C
  shared : NoAttr K C "shared"
  team : NoAttr K C "team"
  past : NoAttr K C "past"
def wfs (sh tm pa : Addr) : List (Str × V) := [("shared", .ref sh), ("team", .ref tm), ("past", .ref pa)]
theorem wfs_shared {sh tm pa : Addr} : (wfs sh tm pa).lookup ("shared" : Str) = some (V.ref sh) := rfl
theorem wfs_team {sh tm pa : Addr} : (wfs sh tm pa).lookup ("team" : Str) = some (V.ref tm) := rfl
theorem wfs_past {sh tm pa : Addr} : (wfs sh tm pa).lookup ("past" : Str) = some (V.ref pa) := rfl
theorem wfs_turn {sh tm pa : Addr} : (wfs sh tm pa).lookup ("turn" : Str) = none := rfl
theorem wfs_how {sh tm pa : Addr} : (wfs sh tm pa).lookup ("how" : Str) = none := rfl
theorem wfs_counts {sh tm pa : Addr} : (wfs sh tm pa).lookup ("counts" : Str) = none := rfl
def teamV (ad : Nat → Addr) (n : Nat) : List V := (List.range n).map fun j => V.ref (ad (3 + 4 * j))
def natsV (l : List Nat) : List V := l.map fun i : Nat => V.int (i : Int)
theorem natsV_ints (l : List Nat) : natsV l = (l.map fun i : Nat => (i : Int)).map V.int := by unfold natsV; rw [List.map_map] <;> rfl
theorem natsV_snoc (l : List Nat) (i : Nat) : natsV l ++ [.int (i : Int)] = natsV (l ++ [i]) := by unfold natsV; rw [List.map_append] <;> rfl
structure WorksAt (CW CH : Addr) (H : Hp) (x : Addr) (ad : Nat → Addr) (s : Ws) : Prop where
  ins : ∃ dx, H x = some (.ins CW dx (wfs (ad 0) (ad 1) (ad 2)))
  sh : H (ad 0) = some (.lst (s.shared.map V.int))
  tm : H (ad 1) = some (.lst (teamV ad s.team.length))
  pa : H (ad 2) = some (.lst (natsV s.past))
  hs : ∀ j h, s.team[j]? = some h → HandAt H CH (ad (3 + 4 * j)) (ad (4 + 4 * j)) (ad (5 + 4 * j)) (ad (6 + 4 * j)) h
  inj : ∀ i j, i < 3 + 4 * s.team.length → j < 3 + 4 * s.team.length → ad i = ad j → i = j
abbrev KpW (ad : Nat → Addr) (n : Nat) (H H' : Hp) : Prop := ∀ p o, H p = some o → (∀ k, k < 3 + 4 * n → p ≠ ad k) → H' p = some o
section
variable {CW CH x : Addr} {H H' : Hp} {ad : Nat → Addr} {s : Ws}
theorem WorksAt.keep (k : WorksAt CW CH H x ad s) (kp : ∀ p o, H p = some o → (p = x ∨ ∃ i, i < 3 + 4 * s.team.length ∧ p = ad i) → H' p = some o) (ts : TS H H') : WorksAt CW CH H' x ad s := by
  obtain ⟨⟨dx, e⟩, e1, e2, e3, e4, inj⟩ := k
  refine ⟨⟨dx, kp _ _ e (.inl rfl)⟩, kp _ _ e1 (.inr ⟨0, by omega, rfl⟩), kp _ _ e2 (.inr ⟨1, by omega, rfl⟩), kp _ _ e3 (.inr ⟨2, by omega, rfl⟩), fun j h hj => ?_, inj⟩
  have hl := (List.getElem?_eq_some_iff.mp hj).1
  refine (e4 j h hj).keep (fun p o e q => kp p o e (.inr ?_)) ts
  rcases q with rfl | rfl | rfl | rfl
  · exact ⟨_, by omega, rfl⟩
  · exact ⟨_, by omega, rfl⟩
  · exact ⟨_, by omega, rfl⟩
  · exact ⟨_, by omega, rfl⟩
theorem WorksAt.same (k : WorksAt CW CH H x ad s) (s' : Same H H') : WorksAt CW CH H' x ad s := k.keep (fun p o e _ => s' p o e) (TS.of s')
theorem WorksAt.ne (k : WorksAt CW CH H x ad s) {i j : Nat} (hi : i < 3 + 4 * s.team.length) (hj : j < 3 + 4 * s.team.length) (h : i ≠ j) : ad i ≠ ad j := fun e => h (k.inj i j hi hj e)
theorem team_at {ad : Nat → Addr} {n j : Nat} (h : j < n) : (teamV ad n)[j]? = some (.ref (ad (3 + 4 * j))) := by
  unfold teamV
  rw [List.getElem?_map, List.getElem?_range h]
  rfl
theorem team_len (ad : Nat → Addr) (n : Nat) : (teamV ad n).length = n := by unfold teamV; simp
end
def sp_turn (CW CH : Addr) : Sp := fun vs H Q _ => ∃ (x : Addr) (ad : Nat → Addr) (s s' : Ws) (t : Tc) (i : Nat) (p : Pg), vs = [.ref x, .int (i : Int)] ∧ WorksAt CW CH H x ad s ∧ s.ok p ∧ s.turn i = some (s', t) ∧ s.past.length ≤ 50 ∧
  ∀ tt H', WorksAt CW CH H' x ad s' → H' tt = some (.tup t.vs) → H tt = none → KpW ad s.team.length H H' → Q (.ref tt) H'
def sp_how (CW CH : Addr) : Sp := fun vs H Q _ => ∃ (x : Addr) (ad : Nat → Addr) (s : Ws) (i : Nat) (h : Hn), vs = [.ref x, .int (i : Int)] ∧ WorksAt CW CH H x ad s ∧ s.team[i]? = some h ∧ Q (.str h.way.txt) H
def sp_counts (CW CH : Addr) : Sp := fun vs H Q _ => ∃ (x : Addr) (ad : Nat → Addr) (s : Ws), vs = [.ref x] ∧ WorksAt CW CH H x ad s ∧ s.team.length ≤ 8 ∧
  ∀ l H', H l = none → H' l = some (.lst (natsV ((List.range s.team.length).map fun j => s.past.count j))) → Same H H' → Q (.ref l) H'
section
variable {P : Program} {w : World} {K : PySem.W.Frag} {mg : Str → Option Value} {base : Heap} {f : Addr} {fd : FuncData}
theorem sc_Works_turn : FnScope ["self", "hand", "one", "told"] ["self", "hand"] (defScope s_Works_turn) := ⟨rfl, rfl, rfl, by decide +kernel, rfl, by decide +kernel, by decide +kernel⟩
theorem ok_turn {CW CH : Addr} {x q0 : Str} (T : Txt K mg) (hC : HC K CH) (hW : WC K CW) (F : FnP K x q0 s_Works_turn [] f fd) (h_hand_of : Def1 P w K mg base "hand_of" ["team", "number"] [] 1 (sp_hand_of K))
    (h_do_touch : Def1 P w K mg base "do_touch" ["hand", "shared"] [] 4 (sp_do_touch CH)) (h_lead_on : Def1 P w K mg base "lead_on" ["hand"] [] 6 (sp_lead_on CH)) : FnOk P w K mg base CX0 7 f fd ["self", "hand"] (sp_turn CW CH) := by
  refine fok F sc_Works_turn (fun vs H Q E h => ?_) (fun cdv A outer s H vs Q E hr h => ?_)
  · obtain ⟨_, _, _, _, _, _, _, rfl, _⟩ := h
    rfl
  · obtain ⟨x, ad, s0, s1, t, i, p, rfl, hA, hok, ht, hpl, q⟩ := h
    refine ⟨_, (pss_cons (ps_set (i := 2) sc_Works_turn.nd rfl (Or.inl rfl) (pe_cl h_hand_of hr (pa_cons (pe_fld (pv 0) rfl) (pa_cons (pv 1) pa_nil))))
  (pss_cons (ps_if (pt_cmpR op_ne (pe_fld (pv 2) rfl) pe_str (nomark _))
  (pss_one ps_never)
  pss_nil)
  (pss_cons (ps_set (i := 3) sc_Works_turn.nd rfl (Or.inl rfl) (pe_cl h_do_touch hr (pa_cons (pv 2) (pa_cons (pe_fld (pv 0) rfl) pa_nil))))
  (pss_cons (ps_expr (pe_bm PySem.F.plainAttrs_list PySem.F.slot_list_append PySem.F.type_list_append mt_append (pe_fld (pv 0) rfl) (pa_cons (pv 1) pa_nil)))
  (pss_cons (ps_expr (pe_cl h_lead_on hr (pa_cons (pv 2) pa_nil)))
  (pss_one (ps_ret (pv 3)))))))), ?_⟩
    obtain ⟨h, eh, hw, et, es⟩ := Ws.turn_some ht
    have hi := (List.getElem?_eq_some_iff.mp eh).1
    obtain ⟨k1, k2, k3⟩ := hok.each h (List.mem_of_getElem? eh)
    have hst := k2 hw
    obtain ⟨dx, hx⟩ := hA.ins
    have hH := hA.hs i h eh
    obtain ⟨dh, hh⟩ := hH.ins
    have ne : ∀ a b : Nat, a < 3 + 4 * s0.team.length → b < 3 + 4 * s0.team.length → a ≠ b → ad a ≠ ad b := fun a b ha hb hn => hA.ne ha hb hn
    -- one
    refine ⟨_, rfl, x, _, dx, _, _, rfl, hx, hW.cl, hW.team, wfs_team, _, rfl, _, _, i, _, rfl, SqL.of hA.tm, team_at hi, ?_⟩
    refine ⟨_, rfl, _, _, dh, _, _, rfl, hh, hC.cl, hC.way, hfs_way, rfl, _, rfl, ?_⟩
    rw [hw]
    refine iteNS rfl ?_
    -- told
    refine ⟨_, rfl, _, rfl, x, _, dx, _, _, rfl, hx, hW.cl, hW.shared, wfs_shared, ?_⟩
    refine ⟨_, _, _, _, _, h, p.cells, s0.shared, rfl, hH, k1, hst, hA.sh, hok.sh, ne _ _ (by omega) (by omega) (by omega), ne _ _ (by omega) (by omega) (by omega), ne _ _ (by omega) (by omega) (by omega), fun u H1 hH1 hS1 hu1 hu0 kp1 => ?_⟩
    rw [← et] at hS1 hu1
    have hx1 : H1 x = some _ := kp1 _ _ hx (ne_of hx hh (fun z => by injection z with _ _ z; exact absurd (congrArg List.length z) (by show ¬ 3 = 5; decide)))
      (ne_of hx hH.held (fun z => by cases z)) (by obtain ⟨xs, e, _⟩ := hH.spoken; exact ne_of hx e (fun z => by cases z)) (ne_of hx hA.sh (fun z => by cases z))
    have hp1 := kp1 _ _ hA.pa (ne _ _ (by omega) (by omega) (by omega)) (ne _ _ (by omega) (by omega) (by omega)) (ne _ _ (by omega) (by omega) (by omega)) (ne _ _ (by omega) (by omega) (by omega))
    -- past
    refine ⟨_, rfl, x, _, dx, _, _, rfl, hx1, hW.cl, hW.past, wfs_past, .inl ⟨rfl, _, SqL.of hp1⟩, _, rfl, _, _, _, rfl, rfl, hp1, Nat.lt_of_le_of_lt (by unfold natsV; rw [List.length_map]; exact hpl) (by decide), ?_⟩
    rw [natsV_snoc]
    have hH2 := hH1.other (ys := natsV (s0.past ++ [i])) hp1 (ne _ _ (by omega) (by omega) (by omega)) (ne _ _ (by omega) (by omega) (by omega)) (ne _ _ (by omega) (by omega) (by omega))
    obtain ⟨a1, a2, a3, a4, a5⟩ := Hn.hit_ok k1 hst (s0.shared.getD h.cell 0)
    -- lead_on
    refine ⟨_, rfl, _, _, _, _, _, p.cells, rfl, hH2, a1, by omega, fun H3 hH3 kp3 => ?_⟩
    -- what is kept
    have kall : ∀ p o, H p = some o → p ≠ ad (3 + 4 * i) → p ≠ ad (5 + 4 * i) → p ≠ ad (6 + 4 * i) → p ≠ ad 0 → p ≠ ad 2 → H3 p = some o := fun p o e n1 n2 n3 n4 n5 => by
      refine kp3 p o ?_ n1 n2 n3
      rw [upd_ne n5]
      exact kp1 p o e n1 n2 n3 n4
    have nx : ∀ k o, H (ad k) = some (.lst o) → x ≠ ad k := fun k o e => ne_of hx e (fun z => by cases z)
    have ts : TS H H3 := fun a xs e => by
      obtain ⟨ys, e5, _⟩ := hH.spoken
      exact kall a _ e (ne_of e hh (fun z => by cases z)) (ne_of e hH.held (fun z => by cases z)) (ne_of e e5 (fun z => by cases z)) (ne_of e hA.sh (fun z => by cases z)) (ne_of e hA.pa (fun z => by cases z))
    have hu3 : H3 u = some (.tup t.vs) := by
      have c1 : u ≠ ad (3 + 4 * i) := fun e => by rw [e, hh] at hu0; cases hu0
      have c2 : u ≠ ad (5 + 4 * i) := fun e => by rw [e, hH.held] at hu0; cases hu0
      have c3 : u ≠ ad (6 + 4 * i) := fun e => by obtain ⟨ys, e5, _⟩ := hH.spoken; rw [e, e5] at hu0; cases hu0
      have c4 : u ≠ ad 2 := fun e => by rw [e, hA.pa] at hu0; cases hu0
      refine kp3 u _ ?_ c1 c2 c3
      rw [upd_ne c4]
      exact hu1
    refine ⟨_, rfl, q u _ ?_ hu3 hu0 (fun p o e h => kall p o e (h _ (by omega)) (h _ (by omega)) (h _ (by omega)) (h _ (by omega)) (h _ (by omega)))⟩
    subst es
    have hlen : (s0.team.set i (Hn.lead 60 (h.hit (s0.shared.getD h.cell 0)).1)).length = s0.team.length := List.length_set
    refine ⟨⟨dx, ?_⟩, ?_, ?_, ?_, fun j g hj => ?_, ?_⟩
    · refine kall x _ hx (ne_of hx hh (fun z => by injection z with _ _ z; exact absurd (congrArg List.length z) (by show ¬ 3 = 5; decide))) (nx _ _ hH.held) (by obtain ⟨xs, e, _⟩ := hH.spoken; exact nx _ _ e) (nx _ _ hA.sh) (nx _ _ hA.pa)
    · refine kp3 _ _ ?_ (ne _ _ (by omega) (by omega) (by omega)) (ne _ _ (by omega) (by omega) (by omega)) (ne _ _ (by omega) (by omega) (by omega))
      rw [upd_ne (ne _ _ (by omega) (by omega) (by omega))]
      exact hS1
    · show H3 (ad 1) = some (.lst (teamV ad (s0.team.set _ _).length))
      rw [hlen]
      exact kall _ _ hA.tm (ne _ _ (by omega) (by omega) (by omega)) (ne _ _ (by omega) (by omega) (by omega)) (ne _ _ (by omega) (by omega) (by omega)) (ne _ _ (by omega) (by omega) (by omega)) (ne _ _ (by omega) (by omega) (by omega))
    · exact kp3 _ _ upd_same (ne _ _ (by omega) (by omega) (by omega)) (ne _ _ (by omega) (by omega) (by omega)) (ne _ _ (by omega) (by omega) (by omega))
    · by_cases e : j = i
      · subst e
        rw [show (s0.team.set j (Hn.lead 60 (h.hit (s0.shared.getD h.cell 0)).1))[j]? = some (Hn.lead 60 (h.hit (s0.shared.getD h.cell 0)).1) by rw [List.getElem?_set_self hi]] at hj
        cases hj
        exact hH3
      · have hj2 : s0.team[j]? = some g := by
          have z : (s0.team.set i (Hn.lead 60 (h.hit (s0.shared.getD h.cell 0)).1))[j]? = some g := hj
          rw [List.getElem?_set_ne (Ne.symm e)] at z
          exact z
        have hjl := (List.getElem?_eq_some_iff.mp hj2).1
        refine (hA.hs j g hj2).keep (fun p o e q => ?_) ts
        rcases q with rfl | rfl | rfl | rfl
        all_goals exact kall _ _ e (ne _ _ (by omega) (by omega) (by omega)) (ne _ _ (by omega) (by omega) (by omega)) (ne _ _ (by omega) (by omega) (by omega)) (ne _ _ (by omega) (by omega) (by omega)) (ne _ _ (by omega) (by omega) (by omega))
    · intro a b ha hb
      exact hA.inj a b (by have ha' : a < 3 + 4 * (s0.team.set i (Hn.lead 60 (h.hit (s0.shared.getD h.cell 0)).1)).length := ha; omega) (by have hb' : b < 3 + 4 * (s0.team.set i (Hn.lead 60 (h.hit (s0.shared.getD h.cell 0)).1)).length := hb; omega)
theorem sc_Works_how : FnScope ["self", "hand"] ["self", "hand"] (defScope s_Works_how) := ⟨rfl, rfl, rfl, by decide +kernel, rfl, by decide +kernel, by decide +kernel⟩
theorem ok_how {CW CH : Addr} {x q0 : Str} (hC : HC K CH) (hW : WC K CW) (F : FnP K x q0 s_Works_how [] f fd) (h_hand_of : Def1 P w K mg base "hand_of" ["team", "number"] [] 1 (sp_hand_of K)) : FnOk P w K mg base CX0 2 f fd ["self", "hand"] (sp_how CW CH) := by
  refine fok F sc_Works_how (fun vs H Q E h => ?_) (fun cdv A outer s H vs Q E hr h => ?_)
  · obtain ⟨_, _, _, _, _, rfl, _⟩ := h
    rfl
  · obtain ⟨x, ad, s0, i, h, rfl, hA, eh, q⟩ := h
    refine ⟨_, (pss_one (ps_ret (pe_fld (pe_cl h_hand_of hr (pa_cons (pe_fld (pv 0) rfl) (pa_cons (pv 1) pa_nil))) rfl))), ?_⟩
    obtain ⟨dx, hx⟩ := hA.ins
    obtain ⟨dh, hh⟩ := (hA.hs i h eh).ins
    have hi := (List.getElem?_eq_some_iff.mp eh).1
    exact ⟨_, rfl, x, _, dx, _, _, rfl, hx, hW.cl, hW.team, wfs_team, _, rfl, _, _, i, _, rfl, SqL.of hA.tm, team_at hi, _, _, dh, _, _, rfl, hh, hC.cl, hC.way, hfs_way, q⟩
theorem sc_Works_counts : FnScope ["self", "hand"] ["self"] (defScope s_Works_counts) := ⟨rfl, rfl, rfl, by decide +kernel, rfl, by decide +kernel, by decide +kernel⟩
theorem ok_counts {CW CH : Addr} {x q0 : Str} (T : Txt K mg) (hW : WC K CW) (F : FnP K x q0 s_Works_counts [] f fd) : FnOk P w K mg base CX0 1 f fd ["self"] (sp_counts CW CH) := by
  refine fok F sc_Works_counts (fun vs H Q E h => ?_) (fun cdv A outer s H vs Q E hr h => ?_)
  · obtain ⟨_, _, _, rfl, _⟩ := h
    rfl
  · obtain ⟨x, ad, s0, rfl, hA, h8, q⟩ := h
    refine ⟨_, (pss_one (ps_ret (pe_lc (own := [("hand", 1)]) (g := gName 1) (tt := tYes) (te := tBM K "list" (rCntI K) (tFld K (tVar 0) "past") (tCons (tVar 1) tNil)) rfl sc_Works_counts.nd (pi_range1 rfl T.n_range (pa_cons (pe_callB call_len_seq (by rfl) T.n_len (by decide +kernel) (pa_cons (pe_fld (pv 0) rfl) pa_nil)) pa_nil)) (blkOk_by (own := [("hand", 1)]) (N := ["self", "hand"]) (sc := defScope s_Works_counts) (by decide +kernel)) (fun _ _ _ _ _ => (pg_name (i := 1) sc_Works_counts.nd rfl (Or.inl rfl))) (fun _ _ _ _ _ => pts_nil) (fun _ _ _ _ _ => (pe_bm PySem.F.plainAttrs_list PySem.F.slot_list_count PySem.F.type_list_count mt_lcount (pe_fld (pv 0) rfl) (pa_cons (pv 1) pa_nil)))))), ?_⟩
    obtain ⟨dx, hx⟩ := hA.ins
    refine ⟨_, rfl, x, _, dx, _, _, rfl, hx, hW.cl, hW.team, wfs_team, _, _, rfl, .inl (SqL.of hA.tm), (s0.team.length : Int), by rw [team_len], by omega, by omega, fun D hD => ?_⟩
    have nxD : x ≠ D := ne_of_none hx hD
    have npD : ad 2 ≠ D := ne_of_none hA.pa hD
    refine lc_it (walk_range (n := s0.team.length)) (fun i H' => H' = upd H D (.lst (natsV ((List.range i).map fun j => s0.past.count j)))) rfl (fun _ _ _ _ => trivial) ?_ ?_
    · rintro i y H1 H2 hi rfl ⟨rfl, rfl⟩
      refine ⟨rfl, ?_⟩
      refine ⟨_, rfl, x, _, dx, _, _, rfl, (upd_ne nxD).trans hx, hW.cl, hW.past, wfs_past, .inl ⟨rfl, _, SqL.of ((upd_ne npD).trans hA.pa)⟩, _, rfl, _, s0.past.map fun i : Nat => (i : Int), 0 + (i : Int), rfl, rfl, by rw [← natsV_ints]; exact SqL.of ((upd_ne npD).trans hA.pa), ?_⟩
      refine ⟨_, upd_same, Nat.lt_of_le_of_lt (by unfold natsV; simp; omega : _ ≤ 8) (by decide), ?_⟩
      rw [upd_upd, List.range_succ, List.map_append]
      have e : (List.map (fun i : Nat => (i : Int)) s0.past).count (0 + (i : Int)) = s0.past.count i := by
        rw [Int.zero_add]
        generalize s0.past = l
        induction l with
        | nil => rfl
        | cons a l ih =>
          rw [List.map_cons, List.count_cons, List.count_cons, ih]
          congr 1
          by_cases z : a = i
          · subst z; simp
          · have z2 : ¬ (a : Int) = (i : Int) := fun k => z (by omega)
            simp [z, z2]
      rw [e, natsV_snoc]
      rfl
    · rintro H1 rfl
      exact q D _ hD upd_same (Same.new hD)
end
end K72

set_option Elab.async false
set_option linter.all false
set_option maxRecDepth 100000
set_option maxHeartbeats 4000000
/-! Works.__init__ -/
namespace K72
open PySem PySem.Spec PyProof.Rows L2 TL
def Hn.raw (rows : List Rw) : Hn := ⟨rows, 0, List.replicate 8 0, 0, .waits⟩
def sp_works_init (CW CH : Addr) : Sp := fun vs H Q _ => ∃ (x dx : Addr) (v : V) (p : Pg), vs = [.ref x, v, .non] ∧ H x = some (.ins CW dx []) ∧ ProgAt H v p ∧ p.ok ∧
  ∀ ad H', WorksAt CW CH H' x ad (Ws.new p) → (∀ k, k < 3 + 4 * p.hands.length → H (ad k) = none) → Kp1 x H H' → Q .non H'
theorem WorksAt.lead {CW CH x : Addr} {H H' : Hp} {ad : Nat → Addr} {s : Ws} {i : Nat} {h h' : Hn} (k : WorksAt CW CH H x ad s) (e : s.team[i]? = some h) (kp : Kp3 (ad (3 + 4 * i)) (ad (5 + 4 * i)) (ad (6 + 4 * i)) H H')
    (hh : HandAt H' CH (ad (3 + 4 * i)) (ad (4 + 4 * i)) (ad (5 + 4 * i)) (ad (6 + 4 * i)) h') : WorksAt CW CH H' x ad { s with team := s.team.set i h' } := by
  have hi := (List.getElem?_eq_some_iff.mp e).1
  have ne : ∀ a b : Nat, a < 3 + 4 * s.team.length → b < 3 + 4 * s.team.length → a ≠ b → ad a ≠ ad b := fun a b ha hb hn => k.ne ha hb hn
  have hH := k.hs i h e
  obtain ⟨dh, eh⟩ := hH.ins
  obtain ⟨dx, hx⟩ := k.ins
  have ts := hH.ts kp
  have hlen : (s.team.set i h').length = s.team.length := List.length_set
  refine ⟨⟨dx, ?_⟩, ?_, ?_, ?_, fun j g hj => ?_, ?_⟩
  · exact kp x _ hx (ne_of hx eh (fun z => by injection z with _ _ z; exact absurd (congrArg List.length z) (by show ¬ 3 = 5; decide))) (ne_of hx hH.held (fun z => by cases z)) (by obtain ⟨xs, e, _⟩ := hH.spoken; exact ne_of hx e (fun z => by cases z))
  · exact kp _ _ k.sh (ne _ _ (by omega) (by omega) (by omega)) (ne _ _ (by omega) (by omega) (by omega)) (ne _ _ (by omega) (by omega) (by omega))
  · show H' (ad 1) = some (.lst (teamV ad (s.team.set _ _).length))
    rw [hlen]
    exact kp _ _ k.tm (ne _ _ (by omega) (by omega) (by omega)) (ne _ _ (by omega) (by omega) (by omega)) (ne _ _ (by omega) (by omega) (by omega))
  · exact kp _ _ k.pa (ne _ _ (by omega) (by omega) (by omega)) (ne _ _ (by omega) (by omega) (by omega)) (ne _ _ (by omega) (by omega) (by omega))
  · by_cases ej : j = i
    · subst ej
      rw [show (s.team.set j h')[j]? = some h' by rw [List.getElem?_set_self hi]] at hj
      cases hj
      exact hh
    · have hj2 : s.team[j]? = some g := by
        have z : (s.team.set i h')[j]? = some g := hj
        rw [List.getElem?_set_ne (Ne.symm ej)] at z
        exact z
      have hjl := (List.getElem?_eq_some_iff.mp hj2).1
      refine (k.hs j g hj2).keep (fun p o e q => ?_) ts
      rcases q with rfl | rfl | rfl | rfl
      all_goals exact kp _ _ e (ne _ _ (by omega) (by omega) (by omega)) (ne _ _ (by omega) (by omega) (by omega)) (ne _ _ (by omega) (by omega) (by omega))
  · intro a b ha hb
    exact k.inj a b (by have ha' : a < 3 + 4 * (s.team.set i h').length := ha; omega) (by have hb' : b < 3 + 4 * (s.team.set i h').length := hb; omega)
/-- four addresses more -/
def ext4 (ad : Nat → Addr) (m : Nat) (a b c d : Addr) : Nat → Addr := fun k => if k = m then a else if k = m + 1 then b else if k = m + 2 then c else if k = m + 3 then d else ad k
section
variable {ad : Nat → Addr} {m : Nat} {a b c d : Addr}
theorem ext4_0 : ext4 ad m a b c d m = a := if_pos rfl
theorem ext4_1 : ext4 ad m a b c d (m + 1) = b := by unfold ext4; rw [if_neg (by omega), if_pos rfl]
theorem ext4_2 : ext4 ad m a b c d (m + 2) = c := by unfold ext4; rw [if_neg (by omega), if_neg (by omega), if_pos rfl]
theorem ext4_3 : ext4 ad m a b c d (m + 3) = d := by unfold ext4; rw [if_neg (by omega), if_neg (by omega), if_neg (by omega), if_pos rfl]
theorem ext4_old {k : Nat} (h : k < m) : ext4 ad m a b c d k = ad k := by unfold ext4; rw [if_neg (by omega), if_neg (by omega), if_neg (by omega), if_neg (by omega)]
theorem ext4_cases {P : Nat → Addr → Prop} (h0 : P m a) (h1 : P (m + 1) b) (h2 : P (m + 2) c) (h3 : P (m + 3) d) (ho : ∀ k, k < m → P k (ad k)) : ∀ k, k < m + 4 → P k (ext4 ad m a b c d k) := by
  intro k hk
  by_cases e : k < m
  · rw [ext4_old e]; exact ho k e
  · have z : k = m ∨ k = m + 1 ∨ k = m + 2 ∨ k = m + 3 := by omega
    rcases z with rfl | rfl | rfl | rfl
    · rw [ext4_0]; exact h0
    · rw [ext4_1]; exact h1
    · rw [ext4_2]; exact h2
    · rw [ext4_3]; exact h3
theorem ext4_inj {l : Nat} (inj : ∀ i j, l ≤ i → i < m → l ≤ j → j < m → ad i = ad j → i = j) (n : a ≠ b ∧ a ≠ c ∧ a ≠ d ∧ b ≠ c ∧ b ≠ d ∧ c ≠ d) (old : ∀ k, l ≤ k → k < m → ad k ≠ a ∧ ad k ≠ b ∧ ad k ≠ c ∧ ad k ≠ d) :
    ∀ i j, l ≤ i → i < m + 4 → l ≤ j → j < m + 4 → ext4 ad m a b c d i = ext4 ad m a b c d j → i = j := by
  obtain ⟨n1, n2, n3, n4, n5, n6⟩ := n
  intro i j hli hi hlj hj
  have key : ∀ i j, l ≤ i → i < m + 4 → l ≤ j → j < m + 4 → i < j → ext4 ad m a b c d i ≠ ext4 ad m a b c d j := by
    intro i j hli hi hlj hj hij
    by_cases ej : j < m
    · rw [ext4_old ej, ext4_old (by omega)]
      exact fun e => by have := inj i j hli (by omega) hlj ej e; omega
    · by_cases ei : i < m
      · obtain ⟨o1, o2, o3, o4⟩ := old i hli ei
        rw [ext4_old ei]
        have z : j = m ∨ j = m + 1 ∨ j = m + 2 ∨ j = m + 3 := by omega
        rcases z with rfl | rfl | rfl | rfl
        · rw [ext4_0]; exact o1
        · rw [ext4_1]; exact o2
        · rw [ext4_2]; exact o3
        · rw [ext4_3]; exact o4
      · have z : (i = m ∧ j = m + 1) ∨ (i = m ∧ j = m + 2) ∨ (i = m ∧ j = m + 3) ∨ (i = m + 1 ∧ j = m + 2) ∨ (i = m + 1 ∧ j = m + 3) ∨ (i = m + 2 ∧ j = m + 3) := by omega
        rcases z with ⟨rfl, rfl⟩ | ⟨rfl, rfl⟩ | ⟨rfl, rfl⟩ | ⟨rfl, rfl⟩ | ⟨rfl, rfl⟩ | ⟨rfl, rfl⟩
        · rw [ext4_0, ext4_1]; exact n1
        · rw [ext4_0, ext4_2]; exact n2
        · rw [ext4_0, ext4_3]; exact n3
        · rw [ext4_1, ext4_2]; exact n4
        · rw [ext4_1, ext4_3]; exact n5
        · rw [ext4_2, ext4_3]; exact n6
  intro e
  rcases Nat.lt_trichotomy i j with h | h | h
  · exact absurd e (key i j hli hi hlj hj h)
  · exact h
  · exact absurd e.symm (key j i hlj hj hli hi h)
end
/-- the hands of a comprehension so far -/
structure Made (CH D : Addr) (H0 H : Hp) (p : Pg) (i : Nat) (ad : Nat → Addr) : Prop where
  top : H D = some (.lst (teamV ad i))
  same : Same H0 H
  hs : ∀ j rows, j < i → p.hands[j]? = some rows → HandAt H CH (ad (3 + 4 * j)) (ad (4 + 4 * j)) (ad (5 + 4 * j)) (ad (6 + 4 * j)) (Hn.raw rows)
  free : ∀ k, 3 ≤ k → k < 3 + 4 * i → H0 (ad k) = none ∧ ad k ≠ D ∧ ∃ o, H (ad k) = some o
  inj : ∀ a b, 3 ≤ a → a < 3 + 4 * i → 3 ≤ b → b < 3 + 4 * i → ad a = ad b → a = b
theorem Made.step {CH D : Addr} {H0 H Hm H' : Hp} {p : Pg} {i : Nat} {ad : Nat → Addr} {rows : List Rw} {x dx r hd sp : Addr} (k : Made CH D H0 H p i ad) (hD : H0 D = none) (er : p.hands[i]? = some rows) (fx : H x = none) (fdx : H dx = none) (ndx : dx ≠ x)
    (em : Hm = upd (upd H dx (.own x)) x (.ins CH dx [])) (hh : HandAt H' CH x r hd sp (Hn.raw rows)) (fr : Hm r = none) (fhd : Hm hd = none) (fsp : Hm sp = none) (kp : Kp1 x Hm H') :
    H' D = some (.lst (teamV ad i)) ∧ Made CH D H0 (upd H' D (.lst (teamV ad i ++ [.ref x]))) p (i + 1) (ext4 ad (3 + 4 * i) x r hd sp) := by
  have S1 : Same H Hm := by rw [em]; exact (Same.new fdx).trans (Same.new (by rw [upd_ne ndx.symm]; exact fx))
  have S2 : Same H H' := fun q o e => kp q o (S1 q o e) (ne_of_none e fx)
  have fr0 := S1.free fr
  have fhd0 := S1.free fhd
  have fsp0 := S1.free fsp
  have hD' := S2 _ _ k.top
  have nD : x ≠ D ∧ r ≠ D ∧ hd ≠ D ∧ sp ≠ D := ⟨(ne_of_none k.top fx).symm, (ne_of_none k.top fr0).symm, (ne_of_none k.top fhd0).symm, (ne_of_none k.top fsp0).symm⟩
  obtain ⟨nD1, nD2, nD3, nD4⟩ := nD
  obtain ⟨n1, n2, n3⟩ := hh.nr
  have hext : teamV ad i ++ [.ref x] = teamV (ext4 ad (3 + 4 * i) x r hd sp) (i + 1) := by
    unfold teamV
    rw [List.range_succ, List.map_append, List.map_cons, List.map_nil, ext4_0]
    refine congrArg (· ++ [V.ref x]) (List.map_congr_left fun j hj => ?_)
    rw [ext4_old (by have := List.mem_range.mp hj; omega)]
  have tsD : TS H' (upd H' D (.lst (teamV ad i ++ [.ref x]))) := TS.upd hD' (fun xs e => by cases e)
  refine ⟨hD', ?_, ?_, fun j rs hj hrs => ?_, fun q h3 hq => ?_, ?_⟩
  · rw [upd_same, hext]
  · exact Same.mut (k.same.trans S2) hD
  · by_cases e : j = i
    · subst e
      rw [er] at hrs
      cases hrs
      rw [show 4 + 4 * j = 3 + 4 * j + 1 by omega, show 5 + 4 * j = 3 + 4 * j + 2 by omega, show 6 + 4 * j = 3 + 4 * j + 3 by omega, ext4_0, ext4_1, ext4_2, ext4_3]
      refine hh.keep (fun q o e h => ?_) tsD
      rw [upd_ne (by rcases h with rfl | rfl | rfl | rfl <;> assumption)]
      exact e
    · rw [ext4_old (by omega), ext4_old (by omega), ext4_old (by omega), ext4_old (by omega)]
      refine (k.hs j rs (by omega) hrs).keep (fun q o e h => ?_) ((TS.of S2).trans tsD)
      have hqD : q ≠ D := by
        rcases h with rfl | rfl | rfl | rfl
        · exact (k.free _ (by omega) (by omega)).2.1
        · exact (k.free _ (by omega) (by omega)).2.1
        · exact (k.free _ (by omega) (by omega)).2.1
        · exact (k.free _ (by omega) (by omega)).2.1
      rw [upd_ne hqD]
      exact S2 q o e
  · have hall := ext4_cases (ad := ad) (m := 3 + 4 * i) (a := x) (b := r) (c := hd) (d := sp) (P := fun k q => 3 ≤ k → H0 q = none ∧ q ≠ D ∧ ∃ o, (upd H' D (.lst (teamV ad i ++ [.ref x]))) q = some o)
      (fun _ => ⟨k.same.free fx, nD1, by obtain ⟨_, e⟩ := hh.ins; exact ⟨_, (upd_ne nD1).trans e⟩⟩)
      (fun _ => ⟨k.same.free fr0, nD2, by obtain ⟨_, e, _⟩ := hh.rows; exact ⟨_, (upd_ne nD2).trans e⟩⟩)
      (fun _ => ⟨k.same.free fhd0, nD3, ⟨_, (upd_ne nD3).trans hh.held⟩⟩)
      (fun _ => ⟨k.same.free fsp0, nD4, by obtain ⟨_, e, _⟩ := hh.spoken; exact ⟨_, (upd_ne nD4).trans e⟩⟩)
      (fun q hq h3 => by
        obtain ⟨a, b, o, c⟩ := k.free q h3 hq
        exact ⟨a, b, o, by rw [upd_ne b]; exact S2 _ _ c⟩)
    exact hall q (by omega) h3
  · have := ext4_inj (ad := ad) (m := 3 + 4 * i) (l := 3) (a := x) (b := r) (c := hd) (d := sp) k.inj ⟨n1, n2, n3, hh.n1, hh.n2, hh.n3⟩ (fun q h3 hq => by
      obtain ⟨_, _, o, c⟩ := k.free q h3 hq
      exact ⟨ne_of_none c fx, ne_of_none c fr0, ne_of_none c fhd0, ne_of_none c fsp0⟩)
    intro a b ha1 ha2 hb1 hb2
    exact this a b ha1 (by omega) hb1 (by omega)
section
variable {P : Program} {w : World} {K : PySem.W.Frag} {mg : Str → Option Value} {base : Heap} {f : Addr} {fd : FuncData}
theorem sc_Works___init__ : FnScope ["self", "program", "cells", "hand", "rows"] ["self", "program", "cells"] (defScope s_Works___init__) := ⟨rfl, rfl, rfl, by decide +kernel, rfl, by decide +kernel, by decide +kernel⟩
theorem ok_works_init {CW CH : Addr} {x q0 : Str} {dvs : List V} (T : Txt K mg) (hC : HC K CH) (hW : WC K CW) (F : FnP K x q0 s_Works___init__ dvs f fd) (h_first_numbers : Def1 P w K mg base "first_numbers" ["many", "numbers"] [] 1 sp_first_numbers)
    (h_Hand : C8.Mak P w K mg base 1 "Hand" CH (sp_hand_init CH) []) (h_lead_on : Def1 P w K mg base "lead_on" ["hand"] [] 6 (sp_lead_on CH)) : FnOk P w K mg base CX0 7 f fd ["self", "program", "cells"] (sp_works_init CW CH) := by
  refine fok F sc_Works___init__ (fun vs H Q E h => ?_) (fun cdv A outer s H vs Q E hr h => ?_)
  · obtain ⟨_, _, _, _, rfl, _⟩ := h
    rfl
  · obtain ⟨x, dx, v, p, rfl, hx, hP, hp, q⟩ := h
    refine ⟨_, (pss_cons (ps_fld (pv 0) (pe_cl h_first_numbers hr (pa_cons (pe_ix ix_tup (pv 1) pe_int (fun _ _ => rfl)) (pa_cons (pv 2) pa_nil))) rfl)
  (pss_cons (ps_fld (pv 0) (pe_lc (own := [("rows", 4)]) (g := gName 4) (tt := tYes) (te := tMake CH (sp_hand_init CH) [] E0 (tCons (tVar 4) tNil)) rfl sc_Works___init__.nd (pi_list (pe_ix ix_tup (pv 1) pe_int (fun _ _ => rfl))) (blkOk_by (own := [("rows", 4)]) (N := ["self", "program", "cells", "hand", "rows"]) (sc := defScope s_Works___init__) (by decide +kernel)) (fun _ _ _ _ _ => (pg_name (i := 4) sc_Works___init__.nd rfl (Or.inl rfl))) (fun _ _ _ _ _ => pts_nil) (fun _ _ _ _ _ => (C8.pe_mk h_Hand hr (by decide) rfl (pa_cons (pv 4) pa_nil)))) rfl)
  (pss_cons (ps_fld (pv 0) (pe_lst pa_nil) rfl)
  (pss_one (ps_for PassesOwn.never rfl (pi_list (pe_fld (pv 0) rfl)) (pg_name (i := 3) sc_Works___init__.nd rfl (Or.inl rfl))
  (pss_one (ps_expr (pe_cl h_lead_on hr (pa_cons (pv 3) pa_nil))))))))), ?_⟩
    obtain ⟨t, h, ls, rfl, ht, hA⟩ := hP
    have hc2 := hp.c2
    have hh2 := hp.h2
    -- shared
    refine ⟨_, rfl, _, _, _, _, rfl, rfl, SqT.of ht, rfl, _, rfl, p.cells, rfl, by omega, fun sh H1 fsh hsh1 S1 => ?_⟩
    have nxs : x ≠ sh := ne_of_none hx fsh
    refine ⟨_, rfl, x, CW, dx, _, rfl, S1 _ _ hx, hW.cl, hW.shared, by show 0 < 1000; decide, ?_⟩
    have k2 : Kp1 x H (upd H1 x (.ins CW dx (putF "shared" (.ref sh) []))) := (Kp1.of S1).trans (Kp1.upd _)
    have ts2 : TS H (upd H1 x (.ins CW dx (putF "shared" (.ref sh) []))) := TS.kp k2 hx (fun xs e => by cases e)
    have x2 : (upd H1 x (.ins CW dx (putF "shared" (.ref sh) []))) x = some (.ins CW dx [("shared", .ref sh)]) := upd_same
    have sh2 : (upd H1 x (.ins CW dx (putF "shared" (.ref sh) []))) sh = some (.lst ((List.replicate p.cells (0 : Int)).map V.int)) := by rw [upd_ne nxs.symm]; exact hsh1
    generalize upd H1 x (.ins CW dx (putF "shared" (.ref sh) [])) = H2 at k2 ts2 x2 sh2
    have nxl : ∀ a xs, H a = some (.lst xs) → a ≠ x := fun a xs e => ne_of e hx (fun z => by cases z)
    have hA2 : HsAt H2 h ls p.hands := ⟨k2 _ _ hA.top (nxl _ _ hA.top), hA.len, hA.nd, fun i l rs a b => by
      obtain ⟨vs, e1, e2⟩ := hA.rows i l rs a b
      exact ⟨vs, k2 _ _ e1 (nxl _ _ e1), e2.ts ts2⟩⟩
    -- team
    refine ⟨_, rfl, _, _, _, _, rfl, rfl, SqT.of (ts2 _ _ ht), rfl, h, rfl, ⟨_, SqL.of hA2.top⟩, fun D hD => ?_⟩
    have nxD : x ≠ D := ne_of_none x2 hD
    have fD : H D = none := by
      cases e : H D with
      | none => rfl
      | some o => rw [k2 _ _ e nxD.symm] at hD; cases hD
    have nsD : sh ≠ D := ne_of_none sh2 hD
    refine lc_it (walk_list (xs := ls.map V.ref)) (fun i H' => ∃ ad, Made CH D H2 H' p i ad) ⟨fun _ => 0, upd_same, Same.new hD, (fun j rows hj => by omega), (fun k h3 hk => by omega), (fun a b h3 hk => by omega)⟩
      (fun i H' _ ⟨ad, k⟩ => SqL.of (k.same _ _ hA2.top)) ?_ ?_
    · rintro i y H3 H4 hi ⟨ad, k⟩ ⟨rfl, hy⟩
      obtain ⟨l, hl, rfl⟩ := ls_at hy
      obtain ⟨rows, hrows⟩ := some_of_lt hl hA2.len
      obtain ⟨vs, e1, e2⟩ := hA2.rows i l rows hl hrows
      refine ⟨rfl, ?_⟩
      refine ⟨_, rfl, fun x' dx' fx fdx ndx => ?_⟩
      have S3 : Same H4 (upd (upd H4 dx' (.own x')) x' (.ins CH dx' [])) := (Same.new fdx).trans (Same.new (by rw [upd_ne ndx.symm]; exact fx))
      refine ⟨x', dx', l, vs, rows, rfl, upd_same, S3 _ _ (k.same _ _ e1), (e2.ts (TS.of k.same)).ts (TS.of S3), fun r hd sp H5 hh fr fhd fsp kp => ⟨rfl, ?_⟩⟩
      obtain ⟨m1, m2⟩ := k.step hD hrows fx fdx ndx rfl hh fr fhd fsp kp
      exact ⟨_, m1, Nat.lt_of_lt_of_le (by rw [team_len]; have := (List.getElem?_eq_some_iff.mp hrows).1; omega : _ < 8) (by decide), _, m2⟩
    rintro H3 ⟨ad, k⟩
    have hn : (ls.map V.ref).length = p.hands.length := by rw [List.length_map]; exact hA.len
    rw [hn] at k
    -- self.team
    have x3 := k.same _ _ x2
    have sh3 := k.same _ _ sh2
    refine ⟨_, rfl, x, CW, dx, _, rfl, x3, hW.cl, hW.team, by show 1 < 1000; decide, ?_⟩
    refine ⟨by show 0 ≤ sizeLine; decide, fun pa hpa => ?_⟩
    have nxp : x ≠ pa := ne_of_none upd_same hpa
    have fpa : H3 pa = none := by rw [upd_ne nxp.symm] at hpa; exact hpa
    refine ⟨_, rfl, x, CW, dx, _, rfl, (upd_ne nxp).trans upd_same, hW.cl, hW.past, by show 2 < 1000; decide, ?_⟩
    have k4 : Kp1 x H3 (upd (upd (upd H3 x (.ins CW dx (putF "team" (.ref D) [("shared", .ref sh)]))) pa (.lst [])) x (.ins CW dx (putF "past" (.ref pa) (putF "team" (.ref D) [("shared", .ref sh)])))) := (Kp1.upd _).trans ((Kp1.new hpa).trans (Kp1.upd _))
    have x4 : (upd (upd (upd H3 x (.ins CW dx (putF "team" (.ref D) [("shared", .ref sh)]))) pa (.lst [])) x (.ins CW dx (putF "past" (.ref pa) (putF "team" (.ref D) [("shared", .ref sh)])))) x = some (.ins CW dx (wfs sh D pa)) := upd_same
    have pa4 : (upd (upd (upd H3 x (.ins CW dx (putF "team" (.ref D) [("shared", .ref sh)]))) pa (.lst [])) x (.ins CW dx (putF "past" (.ref pa) (putF "team" (.ref D) [("shared", .ref sh)])))) pa = some (.lst []) := by rw [upd_ne nxp.symm, upd_same]
    generalize upd (upd (upd H3 x (.ins CW dx (putF "team" (.ref D) [("shared", .ref sh)]))) pa (.lst [])) x (.ins CW dx (putF "past" (.ref pa) (putF "team" (.ref D) [("shared", .ref sh)]))) = H4 at k4 x4 pa4
    have ts4 : TS H3 H4 := TS.kp k4 x3 (fun xs e => by cases e)
    have nDx : D ≠ x := nxD.symm
    have freeH : ∀ q, H2 q = none → q ≠ x → H q = none := fun q e n => by
      cases e1 : H q with
      | none => rfl
      | some o => rw [k2 _ _ e1 n] at e; cases e
    have nax : ∀ q, 3 ≤ q → q < 3 + 4 * p.hands.length → ad q ≠ x := fun q h3 hq e => by
      have := (k.free q h3 hq).1
      rw [e, x2] at this
      cases this
    -- the addresses
    have hadN : ∃ ad' : Nat → Addr, ad' 0 = sh ∧ ad' 1 = D ∧ ad' 2 = pa ∧ ∀ q, 3 ≤ q → ad' q = ad q := ⟨fun q => if q = 0 then sh else if q = 1 then D else if q = 2 then pa else ad q, rfl, rfl, rfl, fun q h => by
      show (if q = 0 then sh else if q = 1 then D else if q = 2 then pa else ad q) = ad q
      rw [if_neg (by omega), if_neg (by omega), if_neg (by omega)]⟩
    obtain ⟨ad', a0, a1, a2, a3⟩ := hadN
    have hteam : teamV ad p.hands.length = teamV ad' p.hands.length := by
      unfold teamV
      refine List.map_congr_left fun j hj => ?_
      rw [a3 _ (by omega)]
    have hW4 : WorksAt CW CH H4 x ad' ⟨List.replicate p.cells 0, p.hands.map Hn.raw, []⟩ := by
      have hlen : (p.hands.map Hn.raw).length = p.hands.length := List.length_map ..
      refine ⟨⟨dx, by rw [a0, a1, a2]; exact x4⟩, by rw [a0]; exact k4 _ _ sh3 nxs.symm, ?_, by rw [a2]; exact pa4, fun j g hj => ?_, ?_⟩
      · show H4 (ad' 1) = some (.lst (teamV ad' (p.hands.map Hn.raw).length))
        rw [hlen, a1, ← hteam]
        exact k4 _ _ k.top nDx
      · have hj' : (p.hands.map Hn.raw)[j]? = some g := hj
        rw [List.getElem?_map] at hj'
        cases e : p.hands[j]? with
        | none => rw [e] at hj'; cases hj'
        | some rows =>
          rw [e] at hj'
          have eg : Hn.raw rows = g := Option.some.inj hj'
          have hjl := (List.getElem?_eq_some_iff.mp e).1
          rw [a3 _ (by omega), a3 _ (by omega), a3 _ (by omega), a3 _ (by omega), ← eg]
          refine (k.hs j rows hjl e).keep (fun q o e h => k4 q o e ?_) ts4
          rcases h with rfl | rfl | rfl | rfl <;> exact nax _ (by omega) (by omega)
      · intro i j hi hj e
        have hi' : i < 3 + 4 * (p.hands.map Hn.raw).length := hi
        have hj' : j < 3 + 4 * (p.hands.map Hn.raw).length := hj
        rw [hlen] at hi' hj'
        have npaD : pa ≠ D := (ne_of_none k.top fpa).symm
        have npas : pa ≠ sh := (ne_of_none sh3 fpa).symm
        have old : ∀ q, 3 ≤ q → q < 3 + 4 * p.hands.length → ad q ≠ sh ∧ ad q ≠ D ∧ ad q ≠ pa := fun q h3 hq => by
          obtain ⟨z1, z2, o, z3⟩ := k.free q h3 hq
          exact ⟨fun e => (by rw [e, sh2] at z1; cases z1), z2, ne_of_none z3 fpa⟩
        have val : ∀ q, q < 3 + 4 * p.hands.length → (q = 0 ∧ ad' q = sh) ∨ (q = 1 ∧ ad' q = D) ∨ (q = 2 ∧ ad' q = pa) ∨ (3 ≤ q ∧ ad' q = ad q) := fun q hq => by
          have z : q = 0 ∨ q = 1 ∨ q = 2 ∨ 3 ≤ q := by omega
          rcases z with rfl | rfl | rfl | z
          · exact .inl ⟨rfl, a0⟩
          · exact .inr (.inl ⟨rfl, a1⟩)
          · exact .inr (.inr (.inl ⟨rfl, a2⟩))
          · exact .inr (.inr (.inr ⟨z, a3 q z⟩))
        rcases val i hi' with ⟨z, y⟩ | ⟨z, y⟩ | ⟨z, y⟩ | ⟨z, y⟩ <;> rcases val j hj' with ⟨z', y'⟩ | ⟨z', y'⟩ | ⟨z', y'⟩ | ⟨z', y'⟩ <;> rw [y, y'] at e
        · omega
        · exact absurd e nsD
        · exact absurd e.symm npas
        · exact absurd e.symm (old j z' hj').1
        · exact absurd e.symm nsD
        · omega
        · exact absurd e.symm npaD
        · exact absurd e.symm (old j z' hj').2.1
        · exact absurd e npas
        · exact absurd e npaD
        · omega
        · exact absurd e.symm (old j z' hj').2.2
        · exact absurd e (old i z hi').1
        · exact absurd e (old i z hi').2.1
        · exact absurd e (old i z hi').2.2
        · exact k.inj i j z hi' z' hj' e
    have hfree : ∀ q, q < 3 + 4 * p.hands.length → H (ad' q) = none := fun q hq => by
      have z : q = 0 ∨ q = 1 ∨ q = 2 ∨ 3 ≤ q := by omega
      rcases z with rfl | rfl | rfl | z
      · rw [a0]; exact fsh
      · rw [a1]; exact fD
      · rw [a2]; exact freeH _ (k.same.free fpa) nxp.symm
      · rw [a3 q z]; exact freeH _ (k.free q z hq).1 (nax q z hq)
    have K4 : Kp1 x H H4 := k2.trans ((Kp1.of k.same).trans k4)
    -- lead_on, hand by hand
    refine ⟨_, rfl, x, CW, dx, _, _, rfl, x4, hW.cl, hW.team, wfs_team, D, rfl, ⟨_, SqL.of (k4 _ _ k.top nDx)⟩, for_it (walk_list (xs := teamV ad p.hands.length)) (fun i σ H' => ∃ (v3 v4 : Option V) (tm : List Hn), σ = [some (.ref x), some (.ref t), some .non, v3, v4] ∧
        WorksAt CW CH H' x ad' ⟨List.replicate p.cells 0, tm, []⟩ ∧ Kp1 x H H' ∧ tm.length = p.hands.length ∧ ∀ j rows, p.hands[j]? = some rows → tm[j]? = some (if j < i then Hn.new rows else Hn.raw rows))
      ⟨_, _, p.hands.map Hn.raw, rfl, hW4, K4, List.length_map .., fun j rows e => by rw [List.getElem?_map, e, if_neg (by omega)] <;> rfl⟩ (fun i σ H' _ ⟨_, _, tm, _, w', _, hl, _⟩ => by
        have z := w'.tm
        rw [show Ws.team ⟨List.replicate p.cells 0, tm, []⟩ = tm from rfl, hl, a1, ← hteam] at z
        exact SqL.of z) ?_ ?_⟩
    · rintro i y σ H5 H6 hi ⟨v3, v4, tm, rfl, w', K5, hl, hall⟩ ⟨rfl, hy⟩
      rw [team_len] at hi
      rw [team_at hi] at hy
      cases hy
      obtain ⟨rows, erow⟩ : ∃ rows, p.hands[i]? = some rows := ⟨_, List.getElem?_eq_getElem hi⟩
      obtain ⟨h1, h2⟩ := hp.rows rows (List.mem_of_getElem? erow)
      have ei := hall i rows erow
      rw [if_neg (by omega)] at ei
      have hh := w'.hs i _ ei
      refine ⟨_, rfl, ad (3 + 4 * i), _, _, _, Hn.raw rows, p.cells, rfl, by rw [← a3 (3 + 4 * i) (by omega)]; exact hh, ⟨Nat.zero_le _, by simp [Hn.raw], h2, h1⟩, Nat.zero_le _, fun H7 hh7 kp => ?_⟩
      rw [← a3 (3 + 4 * i) (by omega)] at hh7 kp
      refine ⟨_, _, tm.set i (Hn.new rows), rfl, w'.lead ei kp hh7, fun q o e n => kp q o (K5 q o e n) (ne_of_none e (hfree _ (by omega))) (ne_of_none e (hfree _ (by omega))) (ne_of_none e (hfree _ (by omega))), by rw [List.length_set]; exact hl, fun j rs ej => ?_⟩
      have hjl := (List.getElem?_eq_some_iff.mp ej).1
      by_cases e : j = i
      · subst e
        rw [erow] at ej
        cases ej
        rw [List.getElem?_set_self (by omega), if_pos (by omega)]
      · rw [List.getElem?_set_ne (Ne.symm e), hall j rs ej]
        by_cases z : j < i
        · rw [if_pos z, if_pos (by omega)]
        · rw [if_neg z, if_neg (by omega)]
    · rintro σ H5 ⟨v3, v4, tm, rfl, w', K5, hl, hall⟩
      have etm : tm = p.hands.map Hn.new := by
        refine List.ext_getElem? fun j => ?_
        rw [List.getElem?_map]
        cases e : p.hands[j]? with
        | none =>
          rw [List.getElem?_eq_none_iff] at e
          exact List.getElem?_eq_none_iff.mpr (by omega)
        | some rows =>
          rw [hall j rows e, if_pos (by rw [team_len]; exact (List.getElem?_eq_some_iff.mp e).1)]
          rfl
      subst etm
      exact q ad' H5 w' hfree K5
end
end K72

set_option Elab.async false
set_option linter.all false
set_option maxRecDepth 100000
set_option maxHeartbeats 4000000
/-! runs; lists of tuples; turns_of, web_of, touches_of -/
namespace K72
open PySem PySem.Spec PyProof.Rows L2 TL
/-- tuples of this content at values, one by one -/
def TupsAt (H : Hp) (vs : List V) (xs : List (List V)) : Prop := vs.length = xs.length ∧ ∀ (i : Nat) v x, vs[i]? = some v → xs[i]? = some x → ∃ t, v = .ref t ∧ H t = some (.tup x)
theorem TupsAt.nil (H : Hp) : TupsAt H [] [] := ⟨rfl, fun i v r h => by simp at h⟩
theorem TupsAt.ts {H H' : Hp} {vs : List V} {xs : List (List V)} (s : TS H H') (h : TupsAt H vs xs) : TupsAt H' vs xs := ⟨h.1, fun i v x a b => by
  obtain ⟨t, e, q⟩ := h.2 i v x a b
  exact ⟨t, e, s _ _ q⟩⟩
theorem TupsAt.snoc {H : Hp} {vs : List V} {xs : List (List V)} {t : Addr} {x : List V} (h : TupsAt H vs xs) (ht : H t = some (.tup x)) : TupsAt H (vs ++ [.ref t]) (xs ++ [x]) := by
  refine ⟨by rw [List.length_append, List.length_append, h.1] <;> rfl, fun i u q a b => ?_⟩
  have hl := h.1
  by_cases hi : i < vs.length
  · rw [List.getElem?_append_left hi] at a
    rw [List.getElem?_append_left (by omega)] at b
    exact h.2 i u q a b
  · rw [List.getElem?_append_right (by omega)] at a
    rw [List.getElem?_append_right (by omega)] at b
    have e : i - vs.length = 0 := by
      cases hn : i - vs.length with
      | zero => rfl
      | succ n => rw [hn] at a; simp at a
    rw [e] at a
    rw [show i - xs.length = 0 by omega] at b
    simp only [List.getElem?_cons_zero, Option.some.injEq] at a b
    subst a b
    exact ⟨t, rfl, ht⟩
theorem TupsAt.at {H : Hp} {vs : List V} {xs : List (List V)} (h : TupsAt H vs xs) {i : Nat} {x : List V} (e : xs[i]? = some x) : ∃ t, vs[i]? = some (.ref t) ∧ H t = some (.tup x) := by
  have hi := (List.getElem?_eq_some_iff.mp e).1
  have hv : i < vs.length := by rw [h.1]; exact hi
  obtain ⟨t, e1, e2⟩ := h.2 i vs[i] x (List.getElem?_eq_getElem hv) e
  exact ⟨t, by rw [List.getElem?_eq_getElem hv, e1], e2⟩
def Ws.run : Ws → List Nat → Option (Ws × List Tc)
  | s, [] => some (s, [])
  | s, i :: w =>
    match s.turn i with
    | none => none
    | some (s1, t) =>
      match s1.run w with
      | none => none
      | some (s2, ts) => some (s2, t :: ts)
theorem Ws.run_cons {s s2 : Ws} {i : Nat} {w : List Nat} {ts : List Tc} (e : s.run (i :: w) = some (s2, ts)) : ∃ s1 t ts', s.turn i = some (s1, t) ∧ s1.run w = some (s2, ts') ∧ ts = t :: ts' := by
  unfold Ws.run at e
  cases h : s.turn i with
  | none => rw [h] at e; cases e
  | some p =>
    obtain ⟨s1, t⟩ := p
    rw [h] at e
    simp only at e
    cases h2 : s1.run w with
    | none => rw [h2] at e; cases e
    | some q =>
      obtain ⟨s3, ts'⟩ := q
      rw [h2] at e
      obtain ⟨rfl, rfl⟩ := Prod.mk.inj (Option.some.inj e)
      exact ⟨s1, t, ts', rfl, h2, rfl⟩
theorem Ws.run_of {s s1 s2 : Ws} {i : Nat} {t : Tc} {w : List Nat} {ts : List Tc} (e : s.turn i = some (s1, t)) (e2 : s1.run w = some (s2, ts)) : s.run (i :: w) = some (s2, t :: ts) := by
  show (match s.turn i with | none => none | some (s1, t) => _) = _
  rw [e]
  simp only
  rw [e2]
theorem Ws.run_app {s : Ws} : ∀ {w1 w2 : List Nat} {s1 s2 : Ws} {t1 t2 : List Tc}, s.run w1 = some (s1, t1) → s1.run w2 = some (s2, t2) → s.run (w1 ++ w2) = some (s2, t1 ++ t2) := by
  intro w1
  induction w1 generalizing s with
  | nil =>
    intro w2 s1 s2 t1 t2 e1 e2
    obtain ⟨rfl, rfl⟩ := Prod.mk.inj (Option.some.inj e1)
    exact e2
  | cons i w ih =>
    intro w2 s1 s2 t1 t2 e1 e2
    obtain ⟨s3, t, ts', a, b, rfl⟩ := Ws.run_cons e1
    exact Ws.run_of a (ih b e2)
theorem Ws.run_split {s : Ws} : ∀ {w1 w2 : List Nat} {s2 : Ws} {ts : List Tc}, s.run (w1 ++ w2) = some (s2, ts) → ∃ s1 t1 t2, s.run w1 = some (s1, t1) ∧ s1.run w2 = some (s2, t2) ∧ ts = t1 ++ t2 := by
  intro w1
  induction w1 generalizing s with
  | nil => intro w2 s2 ts e; exact ⟨s, [], ts, rfl, e, rfl⟩
  | cons i w ih =>
    intro w2 s2 ts e
    obtain ⟨s3, t, ts', a, b, rfl⟩ := Ws.run_cons e
    obtain ⟨s1, t1, t2, c, d, rfl⟩ := ih b
    exact ⟨s1, t :: t1, t2, Ws.run_of a c, d, rfl⟩
theorem Ws.run_ok {p : Pg} {s : Ws} : ∀ {w : List Nat} {s' : Ws} {ts : List Tc}, s.ok p → s.run w = some (s', ts) → s'.ok p ∧ s'.past = s.past ++ w ∧ ts.length = w.length ∧ (∀ i ∈ w, i < p.hands.length) ∧ (∀ t ∈ ts, t.cell < p.cells) ∧ s'.team.length = s.team.length := by
  intro w
  induction w generalizing s with
  | nil =>
    intro s' ts k e
    obtain ⟨rfl, rfl⟩ := Prod.mk.inj (Option.some.inj e)
    exact ⟨k, by simp, rfl, fun i h => (by cases h), fun i h => (by cases h), rfl⟩
  | cons i w ih =>
    intro s' ts k e
    obtain ⟨s1, t, ts', a, b, rfl⟩ := Ws.run_cons e
    obtain ⟨k1, k2, k3⟩ := Ws.turn_ok k a
    obtain ⟨a1, a2, a3, a4, a5, a6⟩ := ih k1 b
    obtain ⟨h, eh, _, _, es⟩ := Ws.turn_some a
    have hi := (List.getElem?_eq_some_iff.mp eh).1
    refine ⟨a1, by rw [a2, k2, List.append_assoc] <;> rfl, by rw [List.length_cons, List.length_cons, a3], fun j hj => ?_, fun u hu => ?_, by rw [a6, es]; exact List.length_set⟩
    · rcases List.mem_cons.mp hj with rfl | hj
      · have := k.tm; omega
      · exact a4 j hj
    · rcases List.mem_cons.mp hu with rfl | hu
      · exact k3
      · exact a5 u hu
/-- a touch in a web -/
abbrev Tw := Nat × Kd × Nat
def twV (x : Tw) : List V := [.int (x.1 : Int), .str x.2.1.txt, .int (x.2.2 : Int)]
def webL : List Nat → List Tc → List Tw
  | h :: w, t :: ts => (h, t.kind, t.cell) :: webL w ts
  | _, _ => []
theorem webL_len : ∀ {w : List Nat} {ts : List Tc}, ts.length = w.length → (webL w ts).length = w.length
  | [], [], _ => rfl
  | [], t :: ts, h => by cases h
  | h :: w, [], e => by cases e
  | h :: w, t :: ts, e => by rw [webL, List.length_cons, List.length_cons, webL_len (Nat.succ.inj e)]
theorem webL_take : ∀ (w : List Nat) (ts : List Tc) (i : Nat) {h : Nat} {t : Tc}, w[i]? = some h → ts[i]? = some t → (webL w ts)[i]? = some (h, t.kind, t.cell)
  | [], _, i, h, t, e, _ => by simp at e
  | a :: w, [], i, h, t, _, e => by simp at e
  | a :: w, b :: ts, 0, h, t, e, e2 => by
    simp only [List.getElem?_cons_zero, Option.some.injEq] at e e2
    rw [webL, e, e2]
    rfl
  | a :: w, b :: ts, i + 1, h, t, e, e2 => by
    rw [List.getElem?_cons_succ] at e e2
    rw [webL, List.getElem?_cons_succ]
    exact webL_take w ts i e e2
/-- the touches of each hand -/
def perHand (n : Nat) (w : List Nat) (ts : List Tc) : List (List Tc) := (List.range n).map fun j => ((w.zip ts).filter fun q => q.1 == j).map Prod.snd
abbrev OrdAt (H : Hp) (a : Addr) (w : List Nat) : Prop := H a = some (.lst (natsV w))
/-- lists of lists of touches -/
structure TLAt (H : Hp) (a : Addr) (hss : List (List Tc)) : Prop where
  ex : ∃ ls : List Addr, H a = some (.lst (ls.map V.ref)) ∧ ls.length = hss.length ∧ (a :: ls).Nodup ∧ ∀ (i : Nat) l ts, ls[i]? = some l → hss[i]? = some ts → ∃ vs, H l = some (.lst vs) ∧ TupsAt H vs (ts.map Tc.vs)
def sp_turns_of (CW CH : Addr) : Sp := fun vs H Q _ => ∃ (x o : Addr) (ad : Nat → Addr) (s s' : Ws) (p : Pg) (w : List Nat) (ts : List Tc), vs = [.ref x, .ref o] ∧ WorksAt CW CH H x ad s ∧ s.ok p ∧ OrdAt H o w ∧ s.run w = some (s', ts) ∧ s.past.length + w.length ≤ 50 ∧
  (∀ k, k < 3 + 4 * s.team.length → o ≠ ad k) ∧ ∀ l xs H', WorksAt CW CH H' x ad s' → H' l = some (.lst xs) → TupsAt H' xs (ts.map Tc.vs) → H l = none → KpW ad s.team.length H H' → Q (.ref l) H'
def sp_web_of : Sp := fun vs H Q _ => ∃ (o : Addr) (v : V) (s' : Ws) (p : Pg) (w : List Nat) (ts : List Tc), vs = [v, .ref o, .non] ∧ ProgAt H v p ∧ p.ok ∧ OrdAt H o w ∧ (Ws.new p).run w = some (s', ts) ∧ w.length ≤ 50 ∧
  ∀ l xs H', H' l = some (.lst xs) → TupsAt H' xs ((webL w ts).map twV) → H l = none → Same H H' → Q (.ref l) H'
def sp_touches_of : Sp := fun vs H Q _ => ∃ (o : Addr) (v : V) (s' : Ws) (p : Pg) (w : List Nat) (ts : List Tc), vs = [v, .ref o, .non] ∧ ProgAt H v p ∧ p.ok ∧ OrdAt H o w ∧ (Ws.new p).run w = some (s', ts) ∧ w.length ≤ 50 ∧
  ∀ l H', TLAt H' l (perHand p.hands.length w ts) → H l = none → Same H H' → Q (.ref l) H'
section
variable {P : Program} {w : World} {K : PySem.W.Frag} {mg : Str → Option Value} {base : Heap} {f : Addr} {fd : FuncData}
theorem sc_turns_of : FnScope ["works", "order", "told", "hand"] ["works", "order"] (defScope s_turns_of) := ⟨rfl, rfl, rfl, by decide +kernel, rfl, by decide +kernel, by decide +kernel⟩
theorem ok_turns_of {CW CH : Addr} (T : Txt K mg) (F : FnP K "turns_of" "turns_of" s_turns_of [] f fd) (m_turn : C8.Met P w K mg base 7 CW "turn" (sp_turn CW CH) []) : FnOk P w K mg base CX0 8 f fd ["works", "order"] (sp_turns_of CW CH) := by
  refine fok F sc_turns_of (fun vs H Q E h => ?_) (fun cdv A outer s H vs Q E hr h => ?_)
  · obtain ⟨_, _, _, _, _, _, _, _, rfl, _⟩ := h
    rfl
  · obtain ⟨x, o, ad, s0, s', p, wd, ts, rfl, hA, hok, hO, hrun, h50, hoa, q⟩ := h
    refine ⟨_, (pss_cons (ps_set (i := 2) sc_turns_of.nd rfl (Or.inl rfl) (pe_lst pa_nil))
  (pss_cons (ps_for PassesOwn.never rfl (pi_list (pv 1)) (pg_name (i := 3) sc_turns_of.nd rfl (Or.inl rfl))
  (pss_one (ps_expr (pe_bm PySem.F.plainAttrs_list PySem.F.slot_list_append PySem.F.type_list_append mt_append (pv 2) (pa_cons (C8.pe_mt m_turn hr (by decide) (pv 0) (pa_cons (pv 3) pa_nil)) pa_nil)))))
  (pss_one (ps_ret (pv 2))))), ?_⟩
    refine ⟨by show 0 ≤ sizeLine; decide, fun l hl => ?_⟩
    have S1 := Same.new (o := .lst []) hl
    have hn : s0.team.length = p.hands.length := hok.tm
    have nl : ∀ k, k < 3 + 4 * s0.team.length → ∃ u, H (ad k) = some u := fun k hk => by
      have z : k = 0 ∨ k = 1 ∨ k = 2 ∨ ∃ j, j < s0.team.length ∧ (k = 3 + 4 * j ∨ k = 4 + 4 * j ∨ k = 5 + 4 * j ∨ k = 6 + 4 * j) := by
        by_cases h0 : k < 3
        · omega
        · exact .inr (.inr (.inr ⟨(k - 3) / 4, by omega, by omega⟩))
      rcases z with rfl | rfl | rfl | ⟨j, hj, z⟩
      · exact ⟨_, hA.sh⟩
      · exact ⟨_, hA.tm⟩
      · exact ⟨_, hA.pa⟩
      · have hh := hA.hs j _ (List.getElem?_eq_getElem hj)
        rcases z with rfl | rfl | rfl | rfl
        · obtain ⟨_, e⟩ := hh.ins; exact ⟨_, e⟩
        · obtain ⟨_, e, _⟩ := hh.rows; exact ⟨_, e⟩
        · exact ⟨_, hh.held⟩
        · obtain ⟨_, e, _⟩ := hh.spoken; exact ⟨_, e⟩
    have nla : ∀ k, k < 3 + 4 * s0.team.length → l ≠ ad k := fun k hk => by
      obtain ⟨u, e⟩ := nl k hk
      exact (ne_of_none e hl).symm
    refine ⟨_, rfl, o, rfl, ⟨_, SqL.of (S1 _ _ hO)⟩, for_it (walk_list (xs := natsV wd)) (fun i σ H' => ∃ (v3 : Option V) (s1 : Ws) (xs : List V), σ = [some (.ref x), some (.ref o), some (.ref l), v3] ∧ WorksAt CW CH H' x ad s1 ∧ s0.run (wd.take i) = some (s1, ts.take i) ∧
        H' l = some (.lst xs) ∧ TupsAt H' xs ((ts.take i).map Tc.vs) ∧ OrdAt H' o wd ∧ KpW ad s0.team.length H H')
      ⟨none, s0, [], rfl, hA.same S1, by simp [Ws.run], upd_same, TupsAt.nil _, S1 _ _ hO, fun p o e _ => S1 _ _ e⟩ (fun i σ H' _ ⟨_, _, _, _, _, _, _, _, h, _⟩ => SqL.of h) ?_ ?_⟩
    · rintro i y σ H1 H2 hi ⟨v3, s1, xs, rfl, hA1, hr1, hl1, hT1, hO1, kp⟩ ⟨rfl, hy⟩
      have hi2 : i < wd.length := by unfold natsV at hi; rw [List.length_map] at hi; exact hi
      have ey : y = .int ((wd[i] : Nat) : Int) := by
        unfold natsV at hy
        rw [List.getElem?_map, List.getElem?_eq_getElem hi2] at hy
        exact (Option.some.inj hy).symm
      subst ey
      obtain ⟨k1, k2, k3, k4, k5, k6⟩ := Ws.run_ok hok hrun
      have hi3 : i < ts.length := by omega
      have esp : wd = wd.take i ++ wd[i] :: wd.drop (i + 1) := by rw [List.getElem_cons_drop hi2, List.take_append_drop]
      have hrun2 : s0.run (wd.take i ++ wd[i] :: wd.drop (i + 1)) = some (s', ts) := by rw [← esp]; exact hrun
      obtain ⟨s2, t1, t2, e1, e2, e3⟩ := Ws.run_split hrun2
      rw [hr1] at e1
      obtain ⟨rfl, rfl⟩ := Prod.mk.inj (Option.some.inj e1)
      obtain ⟨s3, t, t3, e4, e5, rfl⟩ := Ws.run_cons e2
      have etake : ts.take (i + 1) = ts.take i ++ [t] := by
        have e : ts[i]? = some t := by
          rw [e3, List.getElem?_append_right (by rw [List.length_take]; omega)]
          rw [List.length_take, show i - min i ts.length = 0 by omega]
          rfl
        rw [List.take_succ, e] <;> rfl
      have hok1 := (Ws.run_ok hok hr1).1
      have hp1 := (Ws.run_ok hok hr1).2.1
      refine ⟨_, rfl, .inl ⟨rfl, _, SqL.of hl1⟩, _, rfl, ?_⟩
      obtain ⟨dx, hx⟩ := hA1.ins
      have hlen1 : s1.team.length = s0.team.length := (Ws.run_ok hok hr1).2.2.2.2.2
      refine ⟨x, dx, _, rfl, hx, wfs_turn, _, rfl, x, ad, s1, s3, t, wd[i], p, rfl, hA1, hok1, e4, by rw [hp1, List.length_append, List.length_take]; omega, fun u H3 hA3 hu hu0 kp3 => ?_⟩
      rw [hlen1] at kp3
      have hl3 := kp3 _ _ hl1 nla
      have ts13 : TS H2 H3 := fun a ys e => kp3 a _ e fun k hk e2 => by
        obtain ⟨dx, hxx⟩ := hA1.ins
        rw [← hlen1] at hk
        have z : k = 0 ∨ k = 1 ∨ k = 2 ∨ ∃ j, j < s1.team.length ∧ (k = 3 + 4 * j ∨ k = 4 + 4 * j ∨ k = 5 + 4 * j ∨ k = 6 + 4 * j) := by
          by_cases h0 : k < 3
          · omega
          · exact .inr (.inr (.inr ⟨(k - 3) / 4, by omega, by omega⟩))
        rw [e2] at e
        rcases z with rfl | rfl | rfl | ⟨j, hj, z⟩
        · rw [hA1.sh] at e; cases e
        · rw [hA1.tm] at e; cases e
        · rw [hA1.pa] at e; cases e
        · have hh := hA1.hs j _ (List.getElem?_eq_getElem hj)
          rcases z with rfl | rfl | rfl | rfl
          · obtain ⟨_, e3⟩ := hh.ins; rw [e3] at e; cases e
          · obtain ⟨_, e3, _⟩ := hh.rows; rw [e3] at e; cases e
          · rw [hh.held] at e; cases e
          · obtain ⟨_, e3, _⟩ := hh.spoken; rw [e3] at e; cases e
      have hO3 : OrdAt H3 o wd := kp3 _ _ hO1 hoa
      refine ⟨l, xs, _, rfl, rfl, hl3, Nat.lt_of_le_of_lt (by rw [hT1.1, List.length_map, List.length_take]; omega : _ ≤ 50) (by decide), ?_⟩
      have ts3 : TS H3 (upd H3 l (.lst (xs ++ [.ref u]))) := TS.upd hl3 (fun xs e => by cases e)
      refine ⟨_, s3, xs ++ [.ref u], rfl, ?_, ?_, upd_same, ?_, ?_, fun p o e h => ?_⟩
      · refine hA3.keep (fun p o e h => ?_) ts3
        have : p ≠ l := by
          rcases h with rfl | ⟨k, hk, rfl⟩
          · exact ne_of e hl3 (by obtain ⟨d, e9⟩ := hA3.ins; rw [e9] at e; cases e; exact fun z => by cases z)
          · exact (nla k (by have e9 : s3.team.length = s1.team.length := by obtain ⟨_, _, _, _, es⟩ := Ws.turn_some e4; rw [es]; exact List.length_set
                             omega)).symm
        rw [upd_ne this]
        exact e
      · rw [show wd.take (i + 1) = wd.take i ++ [wd[i]] by rw [List.take_succ, List.getElem?_eq_getElem hi2] <;> rfl, etake]
        exact Ws.run_app hr1 (Ws.run_of e4 rfl)
      · rw [etake, List.map_append]
        exact ((hT1.ts ts13).ts ts3).snoc (ts3 _ _ hu)
      · show (upd _ _ _) o = _
        rw [upd_ne (ne_of_none hO hl)]
        exact hO3
      · rw [upd_ne (ne_of_none e hl)]
        exact kp3 _ _ (kp p o e h) h
    · rintro σ H1 ⟨v3, s1, xs, rfl, hA1, hr1, hl1, hT1, hO1, kp⟩
      have el : (natsV wd).length = wd.length := by unfold natsV; rw [List.length_map]
      rw [el, List.take_length] at hr1
      have hts : ts.take wd.length = ts := List.take_of_length_le (by have := (Ws.run_ok hok hrun).2.2.1; omega)
      rw [el, hts] at hT1
      rw [hrun] at hr1
      obtain ⟨rfl, _⟩ := Prod.mk.inj (Option.some.inj hr1)
      exact ⟨_, rfl, q l xs H1 hA1 hl1 hT1 hl kp⟩
end
end K72

set_option Elab.async false
set_option linter.all false
set_option maxRecDepth 100000
set_option maxHeartbeats 4000000
/-! web_of -/
namespace K72
open PySem PySem.Spec PyProof.Rows L2 TL
theorem WorksAt.some {CW CH x : Addr} {H : Hp} {ad : Nat → Addr} {s : Ws} (hA : WorksAt CW CH H x ad s) {k : Nat} (hk : k < 3 + 4 * s.team.length) : ∃ u, H (ad k) = some u ∧ ∀ xs, u ≠ .tup xs := by
  have z : k = 0 ∨ k = 1 ∨ k = 2 ∨ ∃ j, j < s.team.length ∧ (k = 3 + 4 * j ∨ k = 4 + 4 * j ∨ k = 5 + 4 * j ∨ k = 6 + 4 * j) := by
    by_cases h0 : k < 3
    · omega
    · exact .inr (.inr (.inr ⟨(k - 3) / 4, by omega, by omega⟩))
  rcases z with rfl | rfl | rfl | ⟨j, hj, z⟩
  · exact ⟨_, hA.sh, fun xs e => by cases e⟩
  · exact ⟨_, hA.tm, fun xs e => by cases e⟩
  · exact ⟨_, hA.pa, fun xs e => by cases e⟩
  · have hh := hA.hs j _ (List.getElem?_eq_getElem hj)
    rcases z with rfl | rfl | rfl | rfl
    · obtain ⟨_, e⟩ := hh.ins; exact ⟨_, e, fun xs e => by cases e⟩
    · obtain ⟨_, e, _⟩ := hh.rows; exact ⟨_, e, fun xs e => by cases e⟩
    · exact ⟨_, hh.held, fun xs e => by cases e⟩
    · obtain ⟨_, e, _⟩ := hh.spoken; exact ⟨_, e, fun xs e => by cases e⟩
theorem WorksAt.tsk {CW CH x : Addr} {H H' : Hp} {ad : Nat → Addr} {s : Ws} (hA : WorksAt CW CH H x ad s) (kp : KpW ad s.team.length H H') : TS H H' := fun a xs e => kp a _ e fun k hk z => by
  obtain ⟨u, h1, h2⟩ := hA.some hk
  rw [← z, e] at h1
  exact h2 xs (Option.some.inj h1).symm
theorem natsV_at {w : List Nat} {i : Nat} (h : i < w.length) : (natsV w)[i]? = Option.some (V.int ((w[i] : Nat) : Int)) := by
  unfold natsV
  rw [List.getElem?_map, List.getElem?_eq_getElem h]
  rfl
theorem KpW.same {ad : Nat → Addr} {n : Nat} {H0 H H' : Hp} (kp : KpW ad n H H') (s : Same H0 H) (fr : ∀ k, k < 3 + 4 * n → H0 (ad k) = none) : Same H0 H' := fun p o e => kp p o (s p o e) fun k hk => ne_of_none e (fr k hk)
section
variable {P : Program} {w : World} {K : PySem.W.Frag} {mg : Str → Option Value} {base : Heap} {f : Addr} {fd : FuncData}
theorem sc_web_of : FnScope ["program", "order", "cells", "told", "hand", "turn"] ["program", "order", "cells"] (defScope s_web_of) := ⟨rfl, rfl, rfl, by decide +kernel, rfl, by decide +kernel, by decide +kernel⟩
theorem ok_web_of {CW CH : Addr} {x q0 : Str} {dvs : List V} (T : Txt K mg) (F : FnP K x q0 s_web_of dvs f fd) (h_Works : C8.Mak P w K mg base 7 "Works" CW (sp_works_init CW CH) []) (h_turns_of : Def1 P w K mg base "turns_of" ["works", "order"] [] 8 (sp_turns_of CW CH)) :
    FnOk P w K mg base CX0 9 f fd ["program", "order", "cells"] sp_web_of := by
  refine fok F sc_web_of (fun vs H Q E h => ?_) (fun cdv A outer s H vs Q E hr h => ?_)
  · obtain ⟨_, _, _, _, _, _, rfl, _⟩ := h
    rfl
  · obtain ⟨o, v, s', p, wd, ts, rfl, hP, hp, hO, hrun, h50, q⟩ := h
    refine ⟨_, (pss_cons (ps_set (i := 3) sc_web_of.nd rfl (Or.inl rfl) (pe_cl h_turns_of hr (pa_cons (C8.pe_mk h_Works hr (by decide) rfl (pa_cons (pv 0) (pa_cons (pv 2) pa_nil))) (pa_cons (pv 1) pa_nil))))
  (pss_one (ps_ret (pe_lc (own := [("hand", 4), ("turn", 5)]) (g := gTup K 2 (gCons (gName 4) (gCons (gName 5) gNil))) (tt := tYes) (te := tTup (tCons (tVar 4) (tCons (tOp (rIxT K) (tVar 5) (tC (.int 0))) (tCons (tOp (rIxT K) (tVar 5) (tC (.int 1))) tNil)))) rfl sc_web_of.nd (pi_zipS rfl T.n_zip (pa_cons (pv 1) (pa_cons (pv 3) pa_nil))) (blkOk_by (own := [("hand", 4), ("turn", 5)]) (N := ["program", "order", "cells", "told", "hand", "turn"]) (sc := defScope s_web_of) (by decide +kernel)) (fun _ _ _ _ _ => (pg_tup (by rfl) (pgs_cons (pg_name (i := 4) sc_web_of.nd rfl (Or.inl rfl)) (pgs_cons (pg_name (i := 5) sc_web_of.nd rfl (Or.inl rfl)) pgs_nil)))) (fun _ _ _ _ _ => pts_nil) (fun _ _ _ _ _ => (pe_tup (pa_cons (pv 4) (pa_cons (pe_ix ix_tup (pv 5) pe_int (fun _ _ => rfl)) (pa_cons (pe_ix ix_tup (pv 5) pe_int (fun _ _ => rfl)) pa_nil))))))))), ?_⟩
    have hlen := (Ws.run_ok (Ws.new_ok hp) hrun).2.2.1
    refine ⟨_, rfl, _, rfl, fun x dx fx fdx ndx => ?_⟩
    have S1 : Same H (upd (upd H dx (.own x)) x (.ins CW dx [])) := (Same.new fdx).trans (Same.new (by rw [upd_ne ndx.symm]; exact fx))
    refine ⟨x, dx, v, p, rfl, upd_same, hP.same S1, hp, fun ad H1 hA hfr kp1 => ⟨rfl, ?_⟩⟩
    have S2 : Same H H1 := kp1.same S1 fx
    have frH : ∀ k, k < 3 + 4 * p.hands.length → H (ad k) = none := fun k hk => S1.free (hfr k hk)
    have hn : (Ws.new p).team.length = p.hands.length := by show (p.hands.map Hn.new).length = _; rw [List.length_map]
    refine ⟨_, rfl, x, o, ad, Ws.new p, s', p, wd, ts, rfl, hA, Ws.new_ok hp, S2 _ _ hO, hrun, by show 0 + wd.length ≤ 50; omega, fun k hk => ne_of_none hO (frH k (by omega)), fun l xs H2 hA2 hl hT fl kp2 => ?_⟩
    rw [hn] at kp2
    have S3 : Same H H2 := KpW.same kp2 S2 frH
    have hlH : H l = none := S2.free fl
    refine ⟨_, rfl, _, rfl, o, l, natsV wd, xs, rfl, SqL.of (S3 _ _ hO), SqL.of hl, fun D hD => ?_⟩
    have nlD : l ≠ D := ne_of_none hl hD
    have hDH : H D = none := S3.free hD
    have hxl : xs.length = wd.length := by rw [hT.1, List.length_map, hlen]
    have hnl : (natsV wd).length = wd.length := by unfold natsV; rw [List.length_map]
    refine lc_it (walk_zipS (xs := natsV wd) (ys := xs) (by rw [hnl, hxl])) (fun i H' => ∃ zs, H' D = some (.lst zs) ∧ TupsAt H' zs (((webL wd ts).take i).map twV) ∧ Same H H' ∧ H' l = some (.lst xs) ∧ TS H2 H') ⟨[], upd_same, TupsAt.nil _, Same.mut S3 hDH, (upd_ne nlD).trans hl, TS.of (Same.new hD)⟩
      (fun i H' _ ⟨zs, _, _, S, hl, _⟩ => ⟨SqL.of (S _ _ hO), SqL.of hl⟩) ?_ ?_
    · rintro i y H3 H4 hi ⟨zs, hD3, hT3, S33, hl3, ts3⟩ ⟨t, y1, y2, rfl, ht, rfl, e1, e2⟩
      rw [hnl] at hi
      have e1' : (natsV wd)[i]? = some y1 := e1
      have e2 : xs[i]? = some y2 := e2
      have ey : y1 = .int ((wd[i] : Nat) : Int) := (Option.some.inj ((natsV_at hi).symm.trans e1')).symm
      subst ey
      obtain ⟨tc, etc⟩ : ∃ tc, ts[i]? = some tc := ⟨_, List.getElem?_eq_getElem (by omega)⟩
      obtain ⟨u, eu, hu⟩ := hT.at (x := tc.vs) (by rw [List.getElem?_map, etc] <;> rfl)
      rw [eu] at e2
      cases e2
      have hu3 := ts3 _ _ hu
      have St := Same.new (o := .tup [.int ((wd[i] : Nat) : Int), .ref u]) ht
      refine ⟨t, _, rfl, SqT.of upd_same, rfl, _, _, rfl, _, _, rfl, rfl, rfl, ?_⟩
      refine ⟨_, rfl, _, rfl, _, _, _, _, rfl, rfl, SqT.of (St _ _ hu3), rfl, _, rfl, _, _, _, _, rfl, rfl, SqT.of (St _ _ hu3), rfl, by show 3 ≤ sizeLine; decide, fun z hz => ?_⟩
      have Sz := Same.new (o := .tup [.int ((wd[i] : Nat) : Int), .str tc.kind.txt, .int (tc.cell : Int)]) hz
      have hD5 := Sz _ _ (St _ _ hD3)
      refine ⟨zs, hD5, Nat.lt_of_le_of_lt (by rw [hT3.1, List.length_map, List.length_take]; omega : _ ≤ 50) (by decide), ?_⟩
      have tsD := TS.upd (u := .lst (zs ++ [.ref z])) hD5 (fun xs e => by cases e)
      have ez : (webL wd ts)[i]? = some (wd[i], tc.kind, tc.cell) := webL_take wd ts i (List.getElem?_eq_getElem hi) etc
      refine ⟨_, upd_same, ?_, Same.mut (S33.trans (St.trans Sz)) hDH, (upd_ne nlD).trans (Sz _ _ (St _ _ hl3)), ts3.trans ((TS.of (St.trans Sz)).trans tsD)⟩
      rw [show (webL wd ts).take (i + 1) = (webL wd ts).take i ++ [(wd[i], tc.kind, tc.cell)] by rw [List.take_succ, ez] <;> rfl, List.map_append]
      exact (((hT3.ts (TS.of (St.trans Sz))).ts tsD)).snoc (tsD _ _ upd_same)
    · rintro H3 ⟨zs, hD3, hT3, S33, _, _⟩
      rw [List.take_of_length_le (by rw [webL_len hlen, hnl] <;> exact Nat.le_refl _)] at hT3
      exact q D zs H3 hD3 hT3 hDH S33
end
end K72

set_option Elab.async false
set_option linter.all false
set_option maxRecDepth 100000
set_option maxHeartbeats 4000000
/-! touches_of -/
namespace K72
open PySem PySem.Spec PyProof.Rows L2 TL
/-- the same, by its lists' addresses -/
structure TLA (H : Hp) (a : Addr) (ls : List Addr) (hss : List (List Tc)) : Prop where
  top : H a = some (.lst (ls.map V.ref))
  len : ls.length = hss.length
  nd : (a :: ls).Nodup
  each : ∀ (i : Nat) l ts, ls[i]? = some l → hss[i]? = some ts → ∃ vs, H l = some (.lst vs) ∧ TupsAt H vs (ts.map Tc.vs)
theorem TLA.out {H : Hp} {a : Addr} {ls : List Addr} {hss : List (List Tc)} (k : TLA H a ls hss) : TLAt H a hss := ⟨ls, k.top, k.len, k.nd, k.each⟩
theorem TLA.same {H H' : Hp} {a : Addr} {ls : List Addr} {hss : List (List Tc)} (s : Same H H') (k : TLA H a ls hss) : TLA H' a ls hss :=
  ⟨s _ _ k.top, k.len, k.nd, fun i l rs a b => by
    obtain ⟨vs, q, r⟩ := k.each i l rs a b
    exact ⟨vs, s _ _ q, r.ts (TS.of s)⟩⟩
theorem TLA.more {H : Hp} {h l : Addr} {ls : List Addr} {hs : List (List Tc)} (k : TLA H h ls hs) (hl : H l = none) : TLA (upd (upd H l (.lst [])) h (.lst (ls.map V.ref ++ [.ref l]))) h (ls ++ [l]) (hs ++ [[]]) := by
  have nhl : h ≠ l := ne_of_none k.top hl
  have nl : ∀ m ∈ ls, m ≠ l := fun m hm e => by
    obtain ⟨i, hi⟩ := List.getElem?_of_mem hm
    obtain ⟨rs, hrs⟩ := some_of_lt hi k.len
    obtain ⟨vs, q, _⟩ := k.each i m rs hi hrs
    rw [e, hl] at q
    cases q
  have hnd := k.nd
  rw [List.nodup_cons] at hnd
  refine ⟨by rw [upd_same, List.map_append] <;> rfl, by rw [List.length_append, List.length_append, k.len] <;> rfl, ?_, fun i m rs a b => ?_⟩
  · rw [List.nodup_cons]
    refine ⟨fun m => ?_, ?_⟩
    · rcases List.mem_append.mp m with m | m
      · exact hnd.1 m
      · exact nhl (List.mem_singleton.mp m)
    · rw [List.nodup_append]
      exact ⟨hnd.2, by simp, fun a ha b hb e => nl a ha (by rw [e, List.mem_singleton.mp hb])⟩
  · have tsl : TS H (upd (upd H l (.lst [])) h (.lst (ls.map V.ref ++ [.ref l]))) := fun a xs e => by
      rw [upd_ne (fun z => by rw [z, k.top] at e; cases e), upd_ne (ne_of_none e hl)]
      exact e
    by_cases hi : i < ls.length
    · rw [List.getElem?_append_left hi] at a
      rw [List.getElem?_append_left (by rw [← k.len]; exact hi)] at b
      obtain ⟨vs, q, r⟩ := k.each i m rs a b
      have hm := List.mem_of_getElem? a
      exact ⟨vs, by rw [upd_ne (fun z => hnd.1 (by rw [← z]; exact hm)), upd_ne (nl m hm)]; exact q, r.ts tsl⟩
    · have hkl := k.len
      rw [List.getElem?_append_right (by omega)] at a
      rw [List.getElem?_append_right (by omega)] at b
      have e : i - ls.length = 0 := by
        cases hn : i - ls.length with
        | zero => rfl
        | succ n => rw [hn] at a; simp at a
      rw [e] at a
      rw [show i - hs.length = 0 by omega] at b
      simp only [List.getElem?_cons_zero, Option.some.injEq] at a b
      subst a b
      exact ⟨[], by rw [upd_ne (Ne.symm nhl), upd_same], TupsAt.nil _⟩
theorem TLA.push {H : Hp} {a l t : Addr} {ls : List Addr} {hss : List (List Tc)} {i : Nat} {ts : List Tc} {tc : Tc} {vs : List V} (k : TLA H a ls hss) (hl : ls[i]? = some l) (hts : hss[i]? = some ts) (hvs : H l = some (.lst vs)) (ht : H t = some (.tup tc.vs)) :
    TLA (upd H l (.lst (vs ++ [.ref t]))) a ls (hss.set i (ts ++ [tc])) := by
  have tsl : TS H (upd H l (.lst (vs ++ [.ref t]))) := TS.upd hvs (fun xs e => by cases e)
  have hnd := k.nd
  rw [List.nodup_cons] at hnd
  have hm := List.mem_of_getElem? hl
  refine ⟨by rw [upd_ne (fun z => hnd.1 (by rw [z]; exact hm))]; exact k.top, by rw [List.length_set]; exact k.len, k.nd, fun j m rs ha hb => ?_⟩
  by_cases e : j = i
  · subst e
    rw [hl] at ha
    cases ha
    rw [List.getElem?_set_self (List.getElem?_eq_some_iff.mp hts).1] at hb
    cases hb
    obtain ⟨vs', q, r⟩ := k.each j l ts hl hts
    rw [hvs] at q
    cases q
    refine ⟨_, upd_same, ?_⟩
    rw [List.map_append]
    exact (r.ts tsl).snoc (tsl _ _ ht)
  · rw [List.getElem?_set_ne (Ne.symm e)] at hb
    obtain ⟨vs', q, r⟩ := k.each j m rs ha hb
    have nm : m ≠ l := fun z => by
      have h1 := (List.getElem?_eq_some_iff.mp ha)
      have h2 := (List.getElem?_eq_some_iff.mp hl)
      exact e ((List.getElem?_inj h1.1 hnd.2).mp (by rw [ha, hl, z]))
    exact ⟨vs', by rw [upd_ne nm]; exact q, r.ts tsl⟩
theorem perHand_len (n : Nat) (w : List Nat) (ts : List Tc) : (perHand n w ts).length = n := by unfold perHand; simp
theorem perHand_at {n j : Nat} (w : List Nat) (ts : List Tc) (h : j < n) : (perHand n w ts)[j]? = some (((w.zip ts).filter fun q => q.1 == j).map Prod.snd) := by
  unfold perHand
  rw [List.getElem?_map, List.getElem?_range h]
  rfl
theorem zip_take {α β : Type} : ∀ (w : List α) (ts : List β) (i : Nat) {h : α} {t : β}, w[i]? = some h → ts[i]? = some t → (w.take (i + 1)).zip (ts.take (i + 1)) = (w.take i).zip (ts.take i) ++ [(h, t)]
  | [], _, i, h, t, e, _ => by simp at e
  | a :: w, [], i, h, t, _, e => by simp at e
  | a :: w, b :: ts, 0, h, t, e, e2 => by
    simp only [List.getElem?_cons_zero, Option.some.injEq] at e e2
    rw [e, e2]
    simp
  | a :: w, b :: ts, i + 1, h, t, e, e2 => by
    rw [List.getElem?_cons_succ] at e e2
    rw [List.take_succ_cons, List.take_succ_cons, List.take_succ_cons, List.take_succ_cons, List.zip_cons_cons, List.zip_cons_cons, zip_take w ts i e e2] <;> rfl
theorem perHand_step {n i h : Nat} {w : List Nat} {ts : List Tc} {t : Tc} (e : w[i]? = some h) (e2 : ts[i]? = some t) (hn : h < n) :
    perHand n (w.take (i + 1)) (ts.take (i + 1)) = (perHand n (w.take i) (ts.take i)).set h ((((w.take i).zip (ts.take i)).filter fun q => q.1 == h).map Prod.snd ++ [t]) := by
  refine List.ext_getElem? fun j => ?_
  by_cases hj : j < n
  · rw [perHand_at _ _ hj, zip_take w ts i e e2, List.filter_append, List.map_append]
    by_cases z : j = h
    · subst z
      rw [List.getElem?_set_self (by rw [perHand_len]; exact hj)]
      simp
    · rw [List.getElem?_set_ne (Ne.symm z), perHand_at _ _ hj]
      have z2 : ¬ h = j := fun k => z k.symm
      simp [z2]
  · rw [List.getElem?_eq_none_iff.mpr (by rw [perHand_len]; omega), List.getElem?_eq_none_iff.mpr (by rw [List.length_set, perHand_len]; omega)]
theorem perHand_nil (n : Nat) : perHand n [] [] = List.replicate n [] := by
  refine List.ext_getElem? fun j => ?_
  by_cases hj : j < n
  · rw [perHand_at _ _ hj, List.getElem?_replicate, if_pos hj]
    rfl
  · rw [List.getElem?_eq_none_iff.mpr (by rw [perHand_len]; omega), List.getElem?_eq_none_iff.mpr (by rw [List.length_replicate]; omega)]
section
variable {P : Program} {w : World} {K : PySem.W.Frag} {mg : Str → Option Value} {base : Heap} {f : Addr} {fd : FuncData}
theorem sc_touches_of : FnScope ["program", "order", "cells", "works", "told", "found", "hand", "turn", "count"] ["program", "order", "cells"] (defScope s_touches_of) := ⟨rfl, rfl, rfl, by decide +kernel, rfl, by decide +kernel, by decide +kernel⟩
theorem ok_touches_of {CW CH : Addr} {x q0 : Str} {dvs : List V} (T : Txt K mg) (F : FnP K x q0 s_touches_of dvs f fd) (h_Works : C8.Mak P w K mg base 7 "Works" CW (sp_works_init CW CH) []) (h_turns_of : Def1 P w K mg base "turns_of" ["works", "order"] [] 8 (sp_turns_of CW CH))
    (m_counts : C8.Met P w K mg base 1 CW "counts" (sp_counts CW CH) []) : FnOk P w K mg base CX0 9 f fd ["program", "order", "cells"] sp_touches_of := by
  refine fok F sc_touches_of (fun vs H Q E h => ?_) (fun cdv A outer s H vs Q E hr h => ?_)
  · obtain ⟨_, _, _, _, _, _, rfl, _⟩ := h
    rfl
  · obtain ⟨o, v, s', p, wd, ts, rfl, hP, hp, hO, hrun, h50, q⟩ := h
    refine ⟨_, (pss_cons (ps_set (i := 3) sc_touches_of.nd rfl (Or.inl rfl) (C8.pe_mk h_Works hr (by decide) rfl (pa_cons (pv 0) (pa_cons (pv 2) pa_nil))))
  (pss_cons (ps_set (i := 4) sc_touches_of.nd rfl (Or.inl rfl) (pe_cl h_turns_of hr (pa_cons (pv 3) (pa_cons (pv 1) pa_nil))))
  (pss_cons (ps_setLc (i := 5) (own := [("count", 8)]) (g := gName 8) (tt := tYes) (te := tLst tNil) rfl sc_touches_of.nd rfl rfl (sw_true rfl rfl rfl (by decide +kernel)) (pi_list (C8.pe_mt0 m_counts hr (by decide) (pv 3))) (blkOk_by (own := [("count", 8)]) (N := ["program", "order", "cells", "works", "told", "found", "hand", "turn", "count"]) (sc := defScope s_touches_of) (by decide +kernel)) (fun _ _ _ _ _ => (pg_name (i := 8) sc_touches_of.nd rfl (Or.inl rfl))) (fun _ _ _ _ _ => pts_nil) (fun _ _ _ _ _ => (pe_lst pa_nil)))
  (pss_cons (ps_for PassesOwn.never rfl (pi_zipS rfl T.n_zip (pa_cons (pv 1) (pa_cons (pv 4) pa_nil))) (pg_tup (by rfl) (pgs_cons (pg_name (i := 6) sc_touches_of.nd rfl (Or.inl rfl)) (pgs_cons (pg_name (i := 7) sc_touches_of.nd rfl (Or.inl rfl)) pgs_nil)))
  (pss_one (ps_expr (pe_bm PySem.F.plainAttrs_list PySem.F.slot_list_append PySem.F.type_list_append mt_append (pe_ix ix_list (pv 5) (pv 6) (fun _ _ => rfl)) (pa_cons (pv 7) pa_nil)))))
  (pss_one (ps_ret (pv 5))))))), ?_⟩
    have hh2 := hp.h2
    obtain ⟨k1, k2, hlen, k4, k5, k6⟩ := Ws.run_ok (Ws.new_ok hp) hrun
    refine ⟨_, rfl, _, rfl, fun x dx fx fdx ndx => ?_⟩
    have S1 : Same H (upd (upd H dx (.own x)) x (.ins CW dx [])) := (Same.new fdx).trans (Same.new (by rw [upd_ne ndx.symm]; exact fx))
    refine ⟨x, dx, v, p, rfl, upd_same, hP.same S1, hp, fun ad H1 hA hfr kp1 => ⟨rfl, ?_⟩⟩
    have S2 : Same H H1 := kp1.same S1 fx
    have frH : ∀ k, k < 3 + 4 * p.hands.length → H (ad k) = none := fun k hk => S1.free (hfr k hk)
    have hn : (Ws.new p).team.length = p.hands.length := by show (p.hands.map Hn.new).length = _; rw [List.length_map]
    refine ⟨_, rfl, _, rfl, x, o, ad, Ws.new p, s', p, wd, ts, rfl, hA, Ws.new_ok hp, S2 _ _ hO, hrun, by show 0 + wd.length ≤ 50; omega, fun k hk => ne_of_none hO (frH k (by omega)), fun l xs H2 hA2 hl hT fl kp2 => ?_⟩
    rw [hn] at kp2
    have S3 : Same H H2 := KpW.same kp2 S2 frH
    have hlH : H l = none := S2.free fl
    have hn2 : s'.team.length = p.hands.length := by rw [k6, hn]
    -- counts
    obtain ⟨dx2, hx2⟩ := hA2.ins
    refine ⟨_, rfl, x, dx2, _, rfl, hx2, wfs_counts, x, ad, s', rfl, hA2, by omega, fun c H3 fc hc S4 => ?_⟩
    have S34 := S3.trans S4
    have hl3 := S4 _ _ hl
    rw [hn2] at hc
    generalize hcl : natsV ((List.range p.hands.length).map fun j => s'.past.count j) = cl at hc
    have hcn : cl.length = p.hands.length := by rw [← hcl]; unfold natsV; simp
    refine ⟨c, rfl, ⟨_, SqL.of hc⟩, fun D hD => ?_⟩
    have fDH : H D = none := S34.free hD
    refine lc_it (walk_list (xs := cl)) (fun i H' => ∃ ls, TLA H' D ls (List.replicate i []) ∧ Same H3 H' ∧ ∀ m ∈ ls, H3 m = none) ⟨[], ⟨upd_same, rfl, by simp, fun i l ts a => by simp at a⟩, Same.new hD, fun m h => (by cases h)⟩
      (fun i H' _ ⟨ls, _, S, _⟩ => SqL.of (S _ _ hc)) ?_ ?_
    · rintro i y H4 H5 hi ⟨ls, hL, S5, hfr5⟩ ⟨rfl, hy⟩
      refine ⟨rfl, by show 0 ≤ sizeLine; decide, fun m hm => ?_⟩
      have nDm : D ≠ m := ne_of_none hL.top hm
      have hlsl := hL.len
      rw [List.length_replicate] at hlsl
      refine ⟨_, (upd_ne nDm).trans hL.top, Nat.lt_of_le_of_lt (by rw [List.length_map]; omega : _ ≤ 8) (by decide), ls ++ [m], ?_, ?_, fun u hu => ?_⟩
      · have e : List.replicate (i + 1) ([] : List Tc) = List.replicate i [] ++ [[]] := by rw [List.replicate_succ']
        rw [e]
        exact hL.more hm
      · exact Same.mut (S5.trans (Same.new hm)) hD
      · rcases List.mem_append.mp hu with hu | hu
        · exact hfr5 u hu
        · rw [List.mem_singleton.mp hu]
          exact S5.free hm
    rintro H4 ⟨ls, hL, S5, hfr5⟩
    rw [hcn] at hL
    have hxl : xs.length = wd.length := by rw [hT.1, List.length_map, hlen]
    have hnl : (natsV wd).length = wd.length := by unfold natsV; rw [List.length_map]
    have hO4 := S5 _ _ (S34 _ _ hO)
    have hl4 := S5 _ _ hl3
    have hT4 := (hT.ts (TS.of S4)).ts (TS.of S5)
    have hlsn : ls.length = p.hands.length := by have := hL.len; rw [List.length_replicate] at this; exact this
    refine ⟨_, rfl, _, rfl, o, l, natsV wd, xs, rfl, SqL.of hO4, SqL.of hl4, for_it (walk_zipS (xs := natsV wd) (ys := xs) (by rw [hnl, hxl])) (fun i σ H' => ∃ v6 v7 v8 : Option V, σ = [some v, some (.ref o), some .non, some (.ref x), some (.ref l), some (.ref D), v6, v7, v8] ∧
        TLA H' D ls (perHand p.hands.length (wd.take i) (ts.take i)) ∧ Same H3 H' ∧ TS H4 H')
      ⟨_, _, _, rfl, by rw [List.take_zero, List.take_zero, perHand_nil]; exact hL, S5, TS.refl _⟩ (fun i σ H' _ ⟨_, _, _, _, _, S, _⟩ => ⟨SqL.of (S _ _ (S34 _ _ hO)), SqL.of (S _ _ hl3)⟩) ?_ ?_⟩
    · rintro i y σ H5 H6 hi ⟨v6, v7, v8, rfl, hL5, S6, ts6⟩ ⟨t, y1, y2, rfl, ht, rfl, e1, e2⟩
      rw [hnl] at hi
      have e1' : (natsV wd)[i]? = some y1 := e1
      have e2 : xs[i]? = some y2 := e2
      have ey : y1 = .int ((wd[i] : Nat) : Int) := (Option.some.inj ((natsV_at hi).symm.trans e1')).symm
      subst ey
      have hwi : wd[i]? = some wd[i] := List.getElem?_eq_getElem hi
      obtain ⟨tc, etc⟩ : ∃ tc, ts[i]? = some tc := ⟨_, List.getElem?_eq_getElem (by omega)⟩
      obtain ⟨u, eu, hu⟩ := hT4.at (x := tc.vs) (by rw [List.getElem?_map, etc] <;> rfl)
      rw [eu] at e2
      cases e2
      have St := Same.new (o := .tup [.int ((wd[i] : Nat) : Int), .ref u]) ht
      have hL6 := hL5.same St
      have hu6 := St _ _ (ts6 _ _ hu)
      have hwn := k4 _ (List.getElem_mem hi)
      obtain ⟨m, em⟩ : ∃ m, ls[wd[i]]? = some m := ⟨_, List.getElem?_eq_getElem (by rw [hlsn]; exact hwn)⟩
      have ep := perHand_at (wd.take i) (ts.take i) hwn
      obtain ⟨vs, hvs, hvT⟩ := hL6.each _ m _ em ep
      refine ⟨t, _, rfl, SqT.of upd_same, rfl, _, _, rfl, _, _, rfl, rfl, ?_⟩
      have hix : atI (ls.map V.ref) ((wd[i] : Nat) : Int) = some (V.ref m) := atI_nat (by rw [List.getElem?_map, em] <;> rfl)
      refine ⟨_, rfl, _, rfl, _, _, _, _, rfl, rfl, SqL.of hL6.top, hix, ?_⟩
      refine ⟨.inl ⟨rfl, _, SqL.of hvs⟩, _, rfl, m, vs, _, rfl, rfl, hvs, ?_, ?_⟩
      · refine Nat.lt_of_le_of_lt (?_ : _ ≤ 50) (by decide)
        rw [hvT.1, List.length_map, List.length_map]
        refine Nat.le_trans (List.length_filter_le _ _) ?_
        rw [List.length_zip, List.length_take]
        omega
      · have tsm := TS.upd (u := .lst (vs ++ [.ref u])) hvs (fun xs e => by cases e)
        refine ⟨_, _, _, rfl, ?_, ?_, (ts6.trans (TS.of St)).trans tsm⟩
        · rw [perHand_step hwi etc hwn]
          exact hL6.push em ep hvs hu6
        · exact Same.mut (S6.trans St) (hfr5 m (List.mem_of_getElem? em))
    · rintro σ H5 ⟨v6, v7, v8, rfl, hL5, S6, ts6⟩
      rw [hnl, List.take_length, show ts.take wd.length = ts from List.take_of_length_le (by omega)] at hL5
      exact ⟨_, rfl, q D H5 hL5.out fDH (S34.trans S6)⟩
end
end K72

set_option Elab.async false
set_option linter.all false
set_option maxRecDepth 100000
set_option maxHeartbeats 4000000
/-! webs as plain data; data that is compared -/
namespace K72
open PySem PySem.Spec PyProof.Rows L2 TL
def stp (x y : Tw) : Bool := (x.1 == y.1) || ((x.2.2 == y.2.2) && ((x.2.1 != .load) || (y.2.1 != .load)))
/-- how often each of n numbers stands in l -/
def cntV (l : List Nat) (n : Nat) : List Nat := (List.range n).map fun h => l.count h
theorem cntV_len (l : List Nat) (n : Nat) : (cntV l n).length = n := by unfold cntV; simp
theorem cntV_at {l : List Nat} {n h : Nat} (hh : h < n) : (cntV l n)[h]? = some (l.count h) := by
  unfold cntV
  rw [List.getElem?_map, List.getElem?_range hh]
  rfl
theorem cntV_snoc {l : List Nat} {n h : Nat} (hh : h < n) : cntV (l ++ [h]) n = (cntV l n).set h (l.count h + 1) := by
  refine List.ext_getElem? fun j => ?_
  by_cases hj : j < n
  · rw [cntV_at hj]
    by_cases z : j = h
    · subst z
      rw [List.getElem?_set_self (by rw [cntV_len]; exact hj), List.count_append]
      simp
    · rw [List.getElem?_set_ne (Ne.symm z), cntV_at hj, List.count_append]
      have z2 : ¬ h = j := fun k => z k.symm
      simp [List.count_cons, z2]
  · rw [List.getElem?_eq_none_iff.mpr (by rw [cntV_len]; omega), List.getElem?_eq_none_iff.mpr (by rw [List.length_set, cntV_len]; omega)]
theorem cntV_nil (n : Nat) : cntV [] n = List.replicate n 0 := by
  refine List.ext_getElem? fun j => ?_
  by_cases hj : j < n
  · rw [cntV_at hj, List.getElem?_replicate, if_pos hj]
    rfl
  · rw [List.getElem?_eq_none_iff.mpr (by rw [cntV_len]; omega), List.getElem?_eq_none_iff.mpr (by rw [List.length_replicate]; omega)]
theorem natsV_set (l : List Nat) (i k : Nat) : (natsV l).set i (.int (k : Int)) = natsV (l.set i k) := by unfold natsV; rw [← List.map_set]
theorem natsV_len (l : List Nat) : (natsV l).length = l.length := by unfold natsV; rw [List.length_map]
theorem natsV_get {l : List Nat} {i k : Nat} (h : l[i]? = some k) : (natsV l)[i]? = some (.int (k : Int)) := by unfold natsV; rw [List.getElem?_map, h] <;> rfl
theorem natsV_ix {l : List Nat} {i k : Nat} (h : l[i]? = some k) : atI (natsV l) (i : Int) = some (.int (k : Int)) := atI_nat (natsV_get h)
/-- the name of the i-th touch: its hand, and how many of that hand stand before it -/
def hand (W : List Tw) (i : Nat) : Nat := ((W[i]?).map Prod.fst).getD 0
def rank (W : List Tw) (i : Nat) : Nat := ((W.take i).map Prod.fst).count (hand W i)
def nms (W : List Tw) : List (Nat × Nat) := (List.range W.length).map fun i => (hand W i, rank W i)
def pairV (q : Nat × Nat) : List V := [.int (q.1 : Int), .int (q.2 : Int)]
theorem nms_len (W : List Tw) : (nms W).length = W.length := by unfold nms; simp
theorem nms_at {W : List Tw} {i : Nat} (h : i < W.length) : (nms W)[i]? = some (hand W i, rank W i) := by
  unfold nms
  rw [List.getElem?_map, List.getElem?_range h]
  rfl
theorem hand_of_at {W : List Tw} {i : Nat} {x : Tw} (h : W[i]? = some x) : hand W i = x.1 := by unfold hand; rw [h]; rfl
def stpAt (W : List Tw) (i j : Nat) : Bool := stp (W.getD i (0, .load, 0)) (W.getD j (0, .load, 0))
theorem getD_of {α : Type} {l : List α} {i : Nat} {x d : α} (h : l[i]? = some x) : l.getD i d = x := by rw [List.getD_eq_getElem?_getD, h] <;> rfl
theorem stpAt_of {W : List Tw} {i j : Nat} {x y : Tw} (h : W[i]? = some x) (h2 : W[j]? = some y) : stpAt W i j = stp x y := by unfold stpAt; rw [getD_of h, getD_of h2]
/-- webs in the heap -/
def WebAt (H : Hp) (a : Addr) (W : List Tw) : Prop := ∃ xs, H a = some (.lst xs) ∧ TupsAt H xs (W.map twV)
theorem WebAt.same {H H' : Hp} {a : Addr} {W : List Tw} (s : Same H H') (h : WebAt H a W) : WebAt H' a W := by
  obtain ⟨xs, e, t⟩ := h
  exact ⟨xs, s _ _ e, t.ts (TS.of s)⟩
def PairsAt (H : Hp) (a : Addr) (l : List (Nat × Nat)) : Prop := ∃ xs, H a = some (.lst xs) ∧ TupsAt H xs (l.map pairV)
theorem PairsAt.same {H H' : Hp} {a : Addr} {W : List (Nat × Nat)} (s : Same H H') (h : PairsAt H a W) : PairsAt H' a W := by
  obtain ⟨xs, e, t⟩ := h
  exact ⟨xs, s _ _ e, t.ts (TS.of s)⟩
/-! ### data that is compared -/
theorem dp_nats {K : PySem.W.Frag} {H : Hp} : ∀ l : List Nat, DpAll K H (natsV l) (l.map fun i : Nat => PyData.int (i : Int))
  | [] => .nil
  | i :: l => .cons (.int (i : Int)) (dp_nats l)
theorem shaped_nats (l : List Nat) : SeqAt.shaped (.list (l.map fun i : Nat => PyData.int (i : Int))) = true := by
  have h1 : PyData.canLayAll0 (l.map fun i : Nat => PyData.int (i : Int)) = true := canAll fun d hd => by
    obtain ⟨g, hg, rfl⟩ := List.mem_map.mp hd
    rfl
  have h2 : PyData.depthAll (l.map fun i : Nat => PyData.int (i : Int)) ≤ 2 := depAll fun d hd => by
    obtain ⟨g, hg, rfl⟩ := List.mem_map.mp hd
    exact Nat.zero_le _
  show (PyData.canLayAll0 (l.map fun i : Nat => PyData.int (i : Int)) && decide (PyData.depthAll (l.map fun i : Nat => PyData.int (i : Int)) + 1 ≤ 64)) = true
  rw [h1, decide_eq_true (by omega)]
  rfl
theorem eqv_shaped {d : PyData} (h : SeqAt.shaped d = true) : PyData.eqv d d = true := PySem.SeqAt.eqv_refl d (SeqAt.canLay_of_shaped h)
end K72

set_option Elab.async false
set_option linter.all false
set_option maxRecDepth 100000
set_option maxHeartbeats 4000000
/-! names, touches_meet, is_step, counts_of -/
namespace K72
open PySem PySem.Spec PyProof.Rows L2 TL
def sp_names : Sp := fun vs H Q _ => ∃ (a : Addr) (W : List Tw), vs = [.ref a] ∧ WebAt H a W ∧ W.length ≤ 50 ∧ (∀ x ∈ W, x.1 < 8) ∧ ∀ l H', PairsAt H' l (nms W) → H l = none → Same H H' → Q (.ref l) H'
def meetB (x y : Tw) : Bool := if x.1 = y.1 ∨ x.2.2 ≠ y.2.2 then false else (x.2.1 != .load) || (y.2.1 != .load)
def sp_touches_meet : Sp := fun vs H Q _ => ∃ (a b : Addr) (x y : Tw), vs = [.ref a, .ref b] ∧ H a = some (.tup (twV x)) ∧ H b = some (.tup (twV y)) ∧ Q (.bl (meetB x y)) H
def sp_is_step : Sp := fun vs H Q _ => ∃ (a : Addr) (W : List Tw) (i j : Nat), vs = [.ref a, .int (i : Int), .int (j : Int)] ∧ WebAt H a W ∧ i < W.length ∧ j < W.length ∧ Q (.bl (stpAt W i j)) H
def sp_counts_of : Sp := fun vs H Q _ => ∃ (a : Addr) (W : List Tw) (n : Nat), vs = [.int (n : Int), .ref a] ∧ WebAt H a W ∧ n ≤ 8 ∧ (∀ x ∈ W, x.1 < n) ∧ ∀ l H', H' l = some (.lst (natsV (cntV (W.map Prod.fst) n))) → H l = none → Same H H' → Q (.ref l) H'
theorem int_eq (a b : Nat) : decide (V.int (a : Int) = V.int (b : Int)) = (a == b) := by
  by_cases h : a = b
  · subst h; simp
  · rw [decide_eq_false (fun e => h (by have := V.int.inj e; omega))]
    exact (beq_eq_false_iff_ne.mpr h).symm
theorem kd_load (k : Kd) : (!decide (V.str k.txt = V.str "load")) = (k != .load) := by
  cases k with
  | load => rfl
  | store => show (!decide (V.str ("store" : Str) = V.str "load")) = true; decide +kernel
  | swap => show (!decide (V.str ("swap" : Str) = V.str "load")) = true; decide +kernel
theorem natsV_rep (n : Nat) : (List.replicate n (0 : Int)).map V.int = natsV (List.replicate n 0) := by unfold natsV; rw [List.map_replicate, List.map_replicate] <;> rfl
section
variable {P : Program} {w : World} {K : PySem.W.Frag} {mg : Str → Option Value} {base : Heap} {f : Addr} {fd : FuncData}
theorem sc_names : FnScope ["web", "many", "found", "hand", "kind", "cell"] ["web"] (defScope s_names) := ⟨rfl, rfl, rfl, by decide +kernel, rfl, by decide +kernel, by decide +kernel⟩
theorem ok_names (T : Txt K mg) (F : FnP K "names" "names" s_names [] f fd) : FnOk P w K mg base CX0 1 f fd ["web"] sp_names := by
  refine fok F sc_names (fun vs H Q E h => ?_) (fun cdv A outer s H vs Q E hr h => ?_)
  · obtain ⟨_, _, rfl, _⟩ := h
    rfl
  · obtain ⟨a, W, rfl, hW, h50, h8, q⟩ := h
    refine ⟨_, (pss_cons (ps_set (i := 1) sc_names.nd rfl (Or.inl rfl) (pe_op op_rep (pe_lst (pa_cons pe_int pa_nil)) (pe_gl T.g_HANDS)))
  (pss_cons (ps_set (i := 2) sc_names.nd rfl (Or.inl rfl) (pe_lst pa_nil))
  (pss_cons (ps_for PassesOwn.never rfl (pi_list (pv 0)) (pg_tup (by rfl) (pgs_cons (pg_name (i := 3) sc_names.nd rfl (Or.inl rfl)) (pgs_cons (pg_name (i := 4) sc_names.nd rfl (Or.inl rfl)) (pgs_cons (pg_name (i := 5) sc_names.nd rfl (Or.inl rfl)) pgs_nil))))
  (pss_cons (ps_expr (pe_bm PySem.F.plainAttrs_list PySem.F.slot_list_append PySem.F.type_list_append mt_append (pv 2) (pa_cons (pe_tup (pa_cons (pv 3) (pa_cons (pe_ix ix_list (pv 1) (pv 3) (fun _ _ => rfl)) pa_nil))) pa_nil)))
  (pss_one (ps_augS (pv 1) (pv 3) get_list pe_int ip_add set_list))))
  (pss_one (ps_ret (pv 2)))))), ?_⟩
    obtain ⟨xs, ha, hT⟩ := hW
    have hxl : xs.length = W.length := by rw [hT.1, List.length_map]
    refine ⟨by show 1 ≤ sizeLine; decide, fun l0 hl0 => ?_⟩
    refine ⟨l0, 8, _, rfl, rfl, upd_same, by decide, by decide, by show 1 * 8 ≤ sizeLine; decide, fun m hm => ?_⟩
    rw [show (List.replicate (Int.toNat 8) [V.int 0]).flatten = natsV (cntV ((W.take 0).map Prod.fst) 8) by rw [flat_rep, natsV_rep, List.take_zero, List.map_nil, cntV_nil] <;> rfl]
    refine ⟨by show 0 ≤ sizeLine; decide, fun l hl => ?_⟩
    have nml : m ≠ l := ne_of_none upd_same hl
    have fm : H m = none := by
      by_cases z : m = l0
      · rw [z, upd_same] at hm; cases hm
      · rw [upd_ne z] at hm; exact hm
    have S3 : Same H (upd (upd (upd H l0 (.lst [.int 0])) m (.lst (natsV (cntV ((W.take 0).map Prod.fst) 8)))) l (.lst [])) := (Same.new hl0).trans ((Same.new hm).trans (Same.new hl))
    have fl : H l = none := ((Same.new hl0).trans (Same.new hm)).free hl
    refine ⟨_, rfl, a, rfl, ⟨_, SqL.of (S3 _ _ ha)⟩, for_it (walk_list (xs := xs)) (fun i σ H' => ∃ (v3 v4 v5 : Option V) (ys : List V), σ = [some (.ref a), some (.ref m), some (.ref l), v3, v4, v5] ∧ Same H H' ∧ H' m = some (.lst (natsV (cntV ((W.take i).map Prod.fst) 8))) ∧
        H' l = some (.lst ys) ∧ TupsAt H' ys (((nms W).take i).map pairV)) ⟨none, none, none, [], rfl, S3, by rw [upd_ne nml, upd_same], upd_same, TupsAt.nil _⟩ (fun i σ H' _ ⟨_, _, _, _, _, S, _⟩ => SqL.of (S _ _ ha)) ?_ ?_⟩
    · rintro i y σ H1 H2 hi ⟨v3, v4, v5, ys, rfl, S, hm1, hl1, hT1⟩ ⟨rfl, hy⟩
      obtain ⟨x, ex⟩ : ∃ x, W[i]? = some x := ⟨_, List.getElem?_eq_getElem (by omega)⟩
      obtain ⟨t, et, ht⟩ := hT.at (x := twV x) (by rw [List.getElem?_map, ex] <;> rfl)
      rw [hy] at et
      cases et
      have hx8 := h8 x (List.mem_of_getElem? ex)
      have hc : (cntV ((W.take i).map Prod.fst) 8)[x.1]? = some (((W.take i).map Prod.fst).count x.1) := cntV_at hx8
      refine ⟨t, _, rfl, SqT.of (S _ _ ht), rfl, _, _, rfl, _, _, rfl, _, _, rfl, rfl, ?_⟩
      refine ⟨_, rfl, .inl ⟨rfl, _, SqL.of hl1⟩, _, rfl, _, rfl, _, rfl, _, _, _, _, rfl, rfl, SqL.of hm1, natsV_ix hc, by show 2 ≤ sizeLine; decide, fun u hu => ?_⟩
      have Su := Same.new (o := .tup [.int (x.1 : Int), .int ((((W.take i).map Prod.fst).count x.1 : Nat) : Int)]) hu
      have hl2 := Su _ _ hl1
      have hm2 := Su _ _ hm1
      have tsl := TS.upd (u := .lst (ys ++ [.ref u])) hl2 (fun xs e => by cases e)
      have hm3 : (upd (upd H2 u (.tup [.int (x.1 : Int), .int ((((W.take i).map Prod.fst).count x.1 : Nat) : Int)])) l (.lst (ys ++ [.ref u]))) m = _ := (upd_ne nml).trans hm2
      refine ⟨l, ys, _, rfl, rfl, hl2, Nat.lt_of_le_of_lt (by rw [hT1.1, List.length_map, List.length_take, nms_len]; omega : _ ≤ 50) (by decide), ?_⟩
      refine ⟨_, rfl, _, rfl, _, _, _, _, rfl, rfl, SqL.of hm3, natsV_ix hc, _, _, rfl, rfl, _, _, _, x.1, rfl, rfl, hm3, ixN_nat (by rw [natsV_len, cntV_len]; exact hx8), ?_⟩
      have e1 : ((((W.take i).map Prod.fst).count x.1 : Nat) : Int) + 1 = ((((W.take i).map Prod.fst).count x.1 + 1 : Nat) : Int) := by omega
      simp only [e1, natsV_set]
      have etk : W.take (i + 1) = W.take i ++ [x] := by rw [List.take_succ, ex] <;> rfl
      have enm : (nms W).take (i + 1) = (nms W).take i ++ [(hand W i, rank W i)] := by rw [List.take_succ, nms_at (by omega)] <;> rfl
      have eh := hand_of_at ex
      have tsm := TS.upd (u := .lst (natsV ((cntV ((W.take i).map Prod.fst) 8).set x.1 (((W.take i).map Prod.fst).count x.1 + 1)))) hm3 (fun xs e => by cases e)
      refine ⟨_, _, _, ys ++ [.ref u], rfl, Same.mut (Same.mut (S.trans Su) fl) fm, ?_, (upd_ne nml.symm).trans upd_same, ?_⟩
      · rw [upd_same, etk, List.map_append]
        show _ = some (HO.lst (natsV (cntV (List.map Prod.fst (List.take i W) ++ [x.1]) 8)))
        rw [cntV_snoc hx8]
      · rw [enm, List.map_append]
        refine (((hT1.ts (TS.of Su)).ts tsl).ts tsm).snoc (tsm _ _ (tsl _ _ ?_))
        rw [upd_same]
        unfold rank
        rw [eh]
        rfl
    · rintro σ H1 ⟨v3, v4, v5, ys, rfl, S, hm1, hl1, hT1⟩
      rw [hxl, List.take_of_length_le (by rw [nms_len] <;> exact Nat.le_refl _)] at hT1
      exact ⟨_, rfl, q l H1 ⟨ys, hl1, hT1⟩ fl S⟩
theorem sc_touches_meet : FnScope ["one", "other"] ["one", "other"] (defScope s_touches_meet) := ⟨rfl, rfl, rfl, by decide +kernel, rfl, by decide +kernel, by decide +kernel⟩
theorem ok_touches_meet (F : FnP K "touches_meet" "touches_meet" s_touches_meet [] f fd) : FnOk P w K mg base CX0 1 f fd ["one", "other"] sp_touches_meet := by
  refine fok F sc_touches_meet (fun vs H Q E h => ?_) (fun cdv A outer s H vs Q E hr h => ?_)
  · obtain ⟨_, _, _, _, rfl, _⟩ := h
    rfl
  · obtain ⟨a, b, x, y, rfl, ha, hb, q⟩ := h
    refine ⟨_, (pss_cons (ps_if (PW.pt (pw_or (pt_cmpR op_eq (pe_ix ix_tup (pv 0) pe_int (fun _ _ => rfl)) (pe_ix ix_tup (pv 1) pe_int (fun _ _ => rfl)) (nomark _)) (pw_or1 (pt_cmpR op_ne (pe_ix ix_tup (pv 0) pe_int (fun _ _ => rfl)) (pe_ix ix_tup (pv 1) pe_int (fun _ _ => rfl)) (nomark _)))))
  (pss_one (ps_ret pe_bl))
  pss_nil)
  (pss_one (ps_ret (pe_or (pe_cmpR op_ne (pe_ix ix_tup (pv 0) pe_int (fun _ _ => rfl)) pe_str (nomark _)) (pe_one (pe_cmpR op_ne (pe_ix ix_tup (pv 1) pe_int (fun _ _ => rfl)) pe_str (nomark _))))))), ?_⟩
    refine ⟨_, rfl, _, _, _, _, rfl, rfl, SqT.of ha, rfl, _, rfl, _, _, _, _, rfl, rfl, SqT.of hb, rfl, rfl, _, rfl, ?_⟩
    unfold meetB at q
    by_cases h1 : x.1 = y.1
    · rw [if_pos (.inl h1)] at q
      exact iteY (by rw [h1]) q
    · refine iteN (fun e => h1 (by have := V.int.inj e; omega)) ?_
      refine ⟨_, rfl, _, _, _, _, rfl, rfl, SqT.of ha, rfl, _, rfl, _, _, _, _, rfl, rfl, SqT.of hb, rfl, rfl, _, rfl, ?_⟩
      by_cases h2 : x.2.2 = y.2.2
      · rw [if_neg (by rintro (h | h); exact h1 h; exact h h2)] at q
        refine iteNS (by rw [h2]) ?_
        refine ⟨_, rfl, _, _, _, _, rfl, rfl, SqT.of ha, rfl, rfl, ?_⟩
        rw [kd_load]
        cases hx : x.2.1 != .load with
        | true =>
          rw [hx] at q
          exact ⟨_, rfl, q⟩
        | false =>
          rw [hx] at q
          refine ⟨_, rfl, ?_⟩
          refine ⟨_, rfl, _, _, _, _, rfl, rfl, SqT.of hb, rfl, rfl, ?_⟩
          rw [kd_load]
          exact q
      · rw [if_pos (.inr h2)] at q
        exact iteNY (fun e => h2 (by have := V.int.inj e; omega)) q
theorem stp_meet (x y : Tw) : stp x y = ((x.1 == y.1) || meetB x y) := by
  unfold stp meetB
  by_cases h1 : x.1 = y.1
  · simp [h1]
  · by_cases h2 : x.2.2 = y.2.2
    · simp [h1, h2]
    · simp [h1, h2]
theorem sc_is_step : FnScope ["web", "i", "j"] ["web", "i", "j"] (defScope s_is_step) := ⟨rfl, rfl, rfl, by decide +kernel, rfl, by decide +kernel, by decide +kernel⟩
theorem ok_is_step (F : FnP K "is_step" "is_step" s_is_step [] f fd) (h_touches_meet : Def1 P w K mg base "touches_meet" ["one", "other"] [] 1 sp_touches_meet) : FnOk P w K mg base CX0 2 f fd ["web", "i", "j"] sp_is_step := by
  refine fok F sc_is_step (fun vs H Q E h => ?_) (fun cdv A outer s H vs Q E hr h => ?_)
  · obtain ⟨_, _, _, _, rfl, _⟩ := h
    rfl
  · obtain ⟨a, W, i, j, rfl, ⟨xs, ha, hT⟩, hi, hj, q⟩ := h
    refine ⟨_, (pss_one (ps_ret (pe_or (pe_cmpR op_eq (pe_ix ix_tup (pe_ix ix_list (pv 0) (pv 1) (fun _ _ => rfl)) pe_int (fun _ _ => rfl)) (pe_ix ix_tup (pe_ix ix_list (pv 0) (pv 2) (fun _ _ => rfl)) pe_int (fun _ _ => rfl)) (nomark _)) (pe_one (pe_cl h_touches_meet hr (pa_cons (pe_ix ix_list (pv 0) (pv 1) (fun _ _ => rfl)) (pa_cons (pe_ix ix_list (pv 0) (pv 2) (fun _ _ => rfl)) pa_nil))))))), ?_⟩
    obtain ⟨x, ex⟩ : ∃ x, W[i]? = some x := ⟨_, List.getElem?_eq_getElem hi⟩
    obtain ⟨y, ey⟩ : ∃ y, W[j]? = some y := ⟨_, List.getElem?_eq_getElem hj⟩
    obtain ⟨t, et, ht⟩ := hT.at (x := twV x) (by rw [List.getElem?_map, ex] <;> rfl)
    obtain ⟨u, eu, hu⟩ := hT.at (x := twV y) (by rw [List.getElem?_map, ey] <;> rfl)
    rw [stpAt_of ex ey, stp_meet] at q
    refine ⟨_, rfl, _, rfl, _, _, _, _, rfl, rfl, SqL.of ha, atI_nat et, _, _, _, _, rfl, rfl, SqT.of ht, rfl, _, rfl, _, rfl, _, _, _, _, rfl, rfl, SqL.of ha, atI_nat eu, _, _, _, _, rfl, rfl, SqT.of hu, rfl, rfl, ?_⟩
    rw [int_eq]
    cases hxy : x.1 == y.1 with
    | true =>
      rw [hxy] at q
      exact ⟨_, rfl, q⟩
    | false =>
      rw [hxy] at q
      exact ⟨_, rfl, _, rfl, _, rfl, _, _, _, _, rfl, rfl, SqL.of ha, atI_nat et, _, rfl, _, rfl, _, _, _, _, rfl, rfl, SqL.of ha, atI_nat eu, t, u, x, y, rfl, ht, hu, q⟩
theorem sc_counts_of : FnScope ["hands", "web", "found", "hand", "kind", "cell"] ["hands", "web"] (defScope s_counts_of) := ⟨rfl, rfl, rfl, by decide +kernel, rfl, by decide +kernel, by decide +kernel⟩
theorem ok_counts_of (T : Txt K mg) (F : FnP K "counts_of" "counts_of" s_counts_of [] f fd) : FnOk P w K mg base CX0 1 f fd ["hands", "web"] sp_counts_of := by
  refine fok F sc_counts_of (fun vs H Q E h => ?_) (fun cdv A outer s H vs Q E hr h => ?_)
  · obtain ⟨_, _, _, rfl, _⟩ := h
    rfl
  · obtain ⟨a, W, n, rfl, ⟨xs, ha, hT⟩, hn, hall, q⟩ := h
    refine ⟨_, (pss_cons (ps_if (PW.pt (pw_or (pt_cmpR op_lt (pv 0) pe_int (nomark _)) (pw_or1 (pt_cmpR op_gt (pv 0) (pe_gl T.g_MOST_HANDS_records) (nomark _)))))
  (pss_one ps_never)
  pss_nil)
  (pss_cons (ps_set (i := 2) sc_counts_of.nd rfl (Or.inl rfl) (pe_op op_rep (pe_lst (pa_cons pe_int pa_nil)) (pv 0)))
  (pss_cons (ps_for PassesOwn.never rfl (pi_list (pv 1)) (pg_tup (by rfl) (pgs_cons (pg_name (i := 3) sc_counts_of.nd rfl (Or.inl rfl)) (pgs_cons (pg_name (i := 4) sc_counts_of.nd rfl (Or.inl rfl)) (pgs_cons (pg_name (i := 5) sc_counts_of.nd rfl (Or.inl rfl)) pgs_nil))))
  (pss_cons (ps_if (pt_cmpR op_ge (pv 3) (pv 0) (nomark _))
  (pss_one ps_never)
  pss_nil)
  (pss_one (ps_augS (pv 2) (pv 3) get_list pe_int ip_add set_list))))
  (pss_one (ps_ret (pv 2)))))), ?_⟩
    have hxl : xs.length = W.length := by rw [hT.1, List.length_map]
    refine ⟨_, rfl, _, _, rfl, rfl, _, rfl, iteN (by omega) ⟨_, rfl, _, _, rfl, rfl, _, rfl, iteN (by omega) ?_⟩⟩
    refine ⟨by show 1 ≤ sizeLine; decide, fun l0 hl0 => ?_⟩
    refine ⟨_, rfl, l0, (n : Int), _, rfl, rfl, upd_same, by omega, by omega, szw (by show 1 * ((n : Int)).toNat ≤ 100000; omega), fun m hm => ?_⟩
    have e0 : ((n : Int)).toNat = n := by omega
    rw [e0, show (List.replicate n [V.int 0]).flatten = natsV (cntV ((W.take 0).map Prod.fst) n) by rw [flat_rep, natsV_rep, List.take_zero, List.map_nil, cntV_nil] <;> rfl]
    have fm : H m = none := by
      by_cases z : m = l0
      · rw [z, upd_same] at hm; cases hm
      · rw [upd_ne z] at hm; exact hm
    have S2 : Same H (upd (upd H l0 (.lst [.int 0])) m (.lst (natsV (cntV ((W.take 0).map Prod.fst) n)))) := (Same.new hl0).trans (Same.new hm)
    refine ⟨_, rfl, a, rfl, ⟨_, SqL.of (S2 _ _ ha)⟩, for_it (walk_list (xs := xs)) (fun i σ H' => ∃ v3 v4 v5 : Option V, σ = [some (.int (n : Int)), some (.ref a), some (.ref m), v3, v4, v5] ∧ Same H H' ∧ H' m = some (.lst (natsV (cntV ((W.take i).map Prod.fst) n))))
      ⟨none, none, none, rfl, S2, upd_same⟩ (fun i σ H' _ ⟨_, _, _, _, S, _⟩ => SqL.of (S _ _ ha)) ?_ ?_⟩
    · rintro i y σ H1 H2 hi ⟨v3, v4, v5, rfl, S, hm1⟩ ⟨rfl, hy⟩
      obtain ⟨x, ex⟩ : ∃ x, W[i]? = some x := ⟨_, List.getElem?_eq_getElem (by omega)⟩
      obtain ⟨t, et, ht⟩ := hT.at (x := twV x) (by rw [List.getElem?_map, ex] <;> rfl)
      rw [hy] at et
      cases et
      have hxn := hall x (List.mem_of_getElem? ex)
      have hc : (cntV ((W.take i).map Prod.fst) n)[x.1]? = some (((W.take i).map Prod.fst).count x.1) := cntV_at hxn
      refine ⟨t, _, rfl, SqT.of (S _ _ ht), rfl, _, _, rfl, _, _, rfl, _, _, rfl, rfl, ?_⟩
      refine ⟨_, rfl, _, rfl, _, _, rfl, rfl, _, rfl, iteN (by omega) ?_⟩
      refine ⟨_, rfl, _, rfl, _, _, _, _, rfl, rfl, SqL.of hm1, natsV_ix hc, _, _, rfl, rfl, _, _, _, x.1, rfl, rfl, hm1, ixN_nat (by rw [natsV_len, cntV_len]; exact hxn), ?_⟩
      have e1 : ((((W.take i).map Prod.fst).count x.1 : Nat) : Int) + 1 = ((((W.take i).map Prod.fst).count x.1 + 1 : Nat) : Int) := by omega
      simp only [e1, natsV_set]
      have etk : W.take (i + 1) = W.take i ++ [x] := by rw [List.take_succ, ex] <;> rfl
      refine ⟨_, _, _, rfl, Same.mut S fm, ?_⟩
      rw [upd_same, etk, List.map_append]
      show _ = some (HO.lst (natsV (cntV (List.map Prod.fst (List.take i W) ++ [x.1]) n)))
      rw [cntV_snoc hxn]
    · rintro σ H1 ⟨v3, v4, v5, rfl, S, hm1⟩
      rw [hxl, List.take_length] at hm1
      exact ⟨_, rfl, q m H1 hm1 fm S⟩
end
end K72

set_option Elab.async false
set_option linter.all false
set_option maxRecDepth 100000
set_option maxHeartbeats 4000000
/-! stands_of, same_run -/
namespace K72
open PySem PySem.Spec PyProof.Rows L2 TL
def standsL (o : List Nat) (n : Nat) : List Nat := (List.range n).map fun i => o.idxOf i
def sp_stands_of : Sp := fun vs H Q _ => ∃ (a b : Addr) (W : List Tw) (o : List Nat), vs = [.ref a, .ref b] ∧ WebAt H a W ∧ OrdAt H b o ∧ o.Perm (List.range W.length) ∧ W.length < 64 ∧ ∀ l H', H' l = some (.lst (natsV (standsL o W.length))) → H l = none → Same H H' → Q (.ref l) H'
def keptB (W : List Tw) (o : List Nat) : Bool := (List.range W.length).all fun j => (List.range j).all fun i => !(decide (o.idxOf j < o.idxOf i) && stpAt W i j)
def sp_same_run : Sp := fun vs H Q _ => ∃ (a b : Addr) (W : List Tw) (o : List Nat), vs = [.ref a, .ref b] ∧ WebAt H a W ∧ OrdAt H b o ∧ o.Perm (List.range W.length) ∧ W.length < 64 ∧ ∀ H', Same H H' → Q (.bl (keptB W o)) H'
theorem range_le : ∀ n, (List.range n).Pairwise (· ≤ ·) := fun n => List.pairwise_iff_getElem.mpr fun i j hi hj h => by
  rw [List.getElem_range, List.getElem_range]
  omega
theorem standsL_at {o : List Nat} {n i : Nat} (h : i < n) : (standsL o n)[i]? = some (o.idxOf i) := by
  unfold standsL
  rw [List.getElem?_map, List.getElem?_range h]
  rfl
/-- after t places -/
def standsN (o : List Nat) (n t : Nat) : List Nat := (List.range n).map fun i => if o.idxOf i < t then o.idxOf i else 0
theorem standsN_len (o : List Nat) (n t : Nat) : (standsN o n t).length = n := by unfold standsN; simp
theorem standsN_step {o : List Nat} {n t p : Nat} (nd : o.Nodup) (hp : o[t]? = some p) (hn : p < n) : standsN o n (t + 1) = (standsN o n t).set p t := by
  have ht := (List.getElem?_eq_some_iff.mp hp)
  have ei : o.idxOf p = t := by rw [← ht.2]; exact nd.idxOf_getElem t ht.1
  refine List.ext_getElem? fun j => ?_
  by_cases hj : j < n
  · have e1 : (standsN o n (t + 1))[j]? = some (if o.idxOf j < t + 1 then o.idxOf j else 0) := by unfold standsN; rw [List.getElem?_map, List.getElem?_range hj] <;> rfl
    rw [e1]
    by_cases z : j = p
    · subst z
      rw [List.getElem?_set_self (by rw [standsN_len]; exact hj), ei, if_pos (by omega)]
    · rw [List.getElem?_set_ne (Ne.symm z)]
      have e2 : (standsN o n t)[j]? = some (if o.idxOf j < t then o.idxOf j else 0) := by unfold standsN; rw [List.getElem?_map, List.getElem?_range hj] <;> rfl
      rw [e2]
      have hne : o.idxOf j ≠ t := fun e => z (by
        have hl : o.idxOf j < o.length := by rw [e]; exact ht.1
        have e3 := List.getElem_idxOf hl
        simp only [e] at e3
        rw [← e3]
        exact ht.2)
      by_cases h1 : o.idxOf j < t
      · rw [if_pos h1, if_pos (by omega)]
      · rw [if_neg h1, if_neg (by omega)]
  · rw [List.getElem?_eq_none_iff.mpr (by rw [standsN_len]; omega), List.getElem?_eq_none_iff.mpr (by rw [List.length_set, standsN_len]; omega)]
theorem standsN_end {o : List Nat} {n : Nat} (h : o.Perm (List.range n)) : standsN o n n = standsL o n := by
  unfold standsN standsL
  refine List.map_congr_left fun i hi => ?_
  have hm : i ∈ o := h.mem_iff.mpr hi
  have hl := List.idxOf_lt_length_iff.mpr hm
  rw [h.length_eq, List.length_range] at hl
  rw [if_pos hl]
theorem standsN_zero (o : List Nat) (n : Nat) : standsN o n 0 = List.replicate n 0 := by
  refine List.ext_getElem? fun j => ?_
  by_cases hj : j < n
  · rw [List.getElem?_replicate, if_pos hj]
    unfold standsN
    rw [List.getElem?_map, List.getElem?_range hj]
    show some (if _ < 0 then _ else 0) = _
    rw [if_neg (by omega)]
  · rw [List.getElem?_eq_none_iff.mpr (by rw [standsN_len]; omega), List.getElem?_eq_none_iff.mpr (by rw [List.length_replicate]; omega)]
theorem rgV_nats (n : Nat) : rgV 0 (n : Int) = natsV (List.range n) := by
  unfold rgV natsV
  rw [show ((n : Int) - 0).toNat = n by omega]
  refine List.map_congr_left fun i _ => ?_
  rw [Int.zero_add]
section
variable {P : Program} {w : World} {K : PySem.W.Frag} {mg : Str → Option Value} {base : Heap} {f : Addr} {fd : FuncData}
theorem sc_stands_of : FnScope ["web", "order", "stands", "at"] ["web", "order"] (defScope s_stands_of) := ⟨rfl, rfl, rfl, by decide +kernel, rfl, by decide +kernel, by decide +kernel⟩
theorem ok_stands_of (T : Txt K mg) (F : FnP K "stands_of" "stands_of" s_stands_of [] f fd) : FnOk P w K mg base CX0 1 f fd ["web", "order"] sp_stands_of := by
  refine fok F sc_stands_of (fun vs H Q E h => ?_) (fun cdv A outer s H vs Q E hr h => ?_)
  · obtain ⟨_, _, _, _, rfl, _⟩ := h
    rfl
  · obtain ⟨a, b, W, o, rfl, hW, hO, hperm, h64, q⟩ := h
    refine ⟨_, (pss_cons (ps_if (pt_cmpR (op_neD hr.units) (pe_callB cr_sorted (by rfl) T.n_sorted (by decide +kernel) (pa_cons (pv 1) pa_nil)) (pe_listRg rfl (by rfl) T.n_list (prg_1 rfl T.n_range (pe_callB call_len_seq (by rfl) T.n_len (by decide +kernel) (pa_cons (pv 0) pa_nil)))) (nomark _))
  (pss_one ps_never)
  pss_nil)
  (pss_cons (ps_set (i := 2) sc_stands_of.nd rfl (Or.inl rfl) (pe_op op_rep (pe_lst (pa_cons pe_int pa_nil)) (pe_callB call_len_seq (by rfl) T.n_len (by decide +kernel) (pa_cons (pv 0) pa_nil))))
  (pss_cons (ps_for PassesOwn.never rfl (pi_range1 rfl T.n_range (pa_cons (pe_callB call_len_seq (by rfl) T.n_len (by decide +kernel) (pa_cons (pv 1) pa_nil)) pa_nil)) (pg_name (i := 3) sc_stands_of.nd rfl (Or.inl rfl))
  (pss_one (ps_asg (pv 3) (pg_sub (pv 2) (pe_ix ix_list (pv 1) (pv 3) (fun _ _ => rfl)) set_list))))
  (pss_one (ps_ret (pv 2)))))), ?_⟩
    obtain ⟨xs, ha, hT⟩ := hW
    have hxl : xs.length = W.length := by rw [hT.1, List.length_map]
    have hol : o.length = W.length := by rw [hperm.length_eq, List.length_range]
    have nd : o.Nodup := hperm.nodup_iff.mpr List.nodup_range
    refine ⟨_, rfl, b, o.map fun i : Nat => (i : Int), rfl, by rw [← natsV_ints]; exact SqL.of hO, by rw [List.length_map]; omega, fun ns' p hp1 hp2 hfp => ?_⟩
    have S1 := Same.new (o := .lst (ns'.map V.int)) hfp
    refine ⟨_, rfl, a, xs, rfl, .inl (SqL.of (S1 _ _ ha)), (W.length : Int), by rw [hxl], RgOk.of_le (by omega) (by omega) (by omega) (by omega), fun u hu => ?_⟩
    rw [rgV_nats]
    have ens : ns'.map V.int = natsV (List.range W.length) := by
      rw [natsV_ints]
      have e : ns' = (List.range W.length).map fun i : Nat => (i : Int) := by
        refine List.Perm.eq_of_pairwise (le := (· ≤ ·)) (fun a b _ _ h1 h2 => Int.le_antisymm h1 h2) hp2 ?_ (hp1.trans (hperm.map _))
        rw [List.pairwise_map]
        exact (range_le _).imp fun h => by omega
      rw [e]
    rw [ens] at S1 hu ⊢
    have Su := Same.new (o := .lst (natsV (List.range W.length))) hu
    have S2 := S1.trans Su
    have hp3 := Su _ _ (upd_same (H := H) (a := p) (o := .lst (natsV (List.range W.length))))
    refine ⟨.list ((List.range W.length).map fun i : Nat => PyData.int (i : Int)), .list ((List.range W.length).map fun i : Nat => PyData.int (i : Int)), .lst (SqL.of hp3) (dp_nats _), .lst (SqL.of upd_same) (dp_nats _), shaped_nats _, shaped_nats _, _, rfl, ?_⟩
    rw [eqv_shaped (shaped_nats _)]
    refine iteF ?_
    generalize upd (upd H p (.lst (natsV (List.range W.length)))) u (.lst (natsV (List.range W.length))) = H2 at S2
    refine ⟨by show 1 ≤ sizeLine; decide, fun l0 hl0 => ?_⟩
    refine ⟨_, rfl, a, xs, rfl, .inl (SqL.of ((Same.new hl0) _ _ (S2 _ _ ha))), l0, (xs.length : Int), _, rfl, rfl, upd_same, by omega, by omega, szw (by show 1 * ((xs.length : Int)).toNat ≤ 100000; omega), fun m hm => ?_⟩
    have e0 : ((xs.length : Int)).toNat = W.length := by omega
    rw [e0, show (List.replicate W.length [V.int 0]).flatten = natsV (standsN o W.length 0) by rw [flat_rep, natsV_rep, standsN_zero]]
    have fm0 : H2 m = none := by
      by_cases z : m = l0
      · rw [z, upd_same] at hm; cases hm
      · rw [upd_ne z] at hm; exact hm
    have fm := S2.free fm0
    have S3 : Same H (upd (upd H2 l0 (.lst [.int 0])) m (.lst (natsV (standsN o W.length 0)))) := S2.trans ((Same.new hl0).trans (Same.new hm))
    refine ⟨_, rfl, b, _, rfl, .inl (SqL.of (S3 _ _ hO)), ((W.length : Nat) : Int), by rw [natsV_len, hol], by omega, by omega, for_range (n := W.length) (fun t σ H' => ∃ v3 : Option V, σ = [some (.ref a), some (.ref b), some (.ref m), v3] ∧ Same H H' ∧ H' m = some (.lst (natsV (standsN o W.length t))))
      ⟨none, rfl, S3, upd_same⟩ ?_ ?_⟩
    · rintro t σ H4 ht ⟨v3, rfl, S4, hm4⟩
      have hot : o[t]? = some o[t] := List.getElem?_eq_getElem (by omega)
      have hpn : o[t] < W.length := by
        have := hperm.mem_iff.mp (List.getElem_mem (l := o) (n := t) (by omega))
        exact List.mem_range.mp this
      refine ⟨_, rfl, _, rfl, _, rfl, _, rfl, _, _, _, _, rfl, rfl, SqL.of (S4 _ _ hO), (by rw [Int.zero_add]; exact natsV_ix hot), _, _, _, o[t], rfl, rfl, hm4, ixN_nat (by rw [natsV_len, standsN_len]; exact hpn), ?_⟩
      simp only [Int.zero_add, natsV_set]
      refine ⟨_, rfl, Same.mut S4 fm, ?_⟩
      rw [upd_same, standsN_step nd hot hpn]
    · rintro σ H4 ⟨v3, rfl, S4, hm4⟩
      rw [standsN_end hperm] at hm4
      exact ⟨_, rfl, q m H4 hm4 fm S4⟩
theorem sc_same_run : FnScope ["web", "order", "stands", "j", "i"] ["web", "order"] (defScope s_same_run) := ⟨rfl, rfl, rfl, by decide +kernel, rfl, by decide +kernel, by decide +kernel⟩
theorem ok_same_run (T : Txt K mg) (F : FnP K "same_run" "same_run" s_same_run [] f fd) (h_stands_of : Def1 P w K mg base "stands_of" ["web", "order"] [] 1 sp_stands_of) (h_is_step : Def1 P w K mg base "is_step" ["web", "i", "j"] [] 2 sp_is_step) :
    FnOk P w K mg base CX0 3 f fd ["web", "order"] sp_same_run := by
  refine fok F sc_same_run (fun vs H Q E h => ?_) (fun cdv A outer s H vs Q E hr h => ?_)
  · obtain ⟨_, _, _, _, rfl, _⟩ := h
    rfl
  · obtain ⟨a, b, W, o, rfl, hW, hO, hperm, h64, q⟩ := h
    refine ⟨_, (pss_cons (ps_set (i := 2) sc_same_run.nd rfl (Or.inl rfl) (pe_cl h_stands_of hr (pa_cons (pv 0) (pa_cons (pv 1) pa_nil))))
  (pss_cons (ps_for PassesOwn.never rfl (pi_range1 rfl T.n_range (pa_cons (pe_callB call_len_seq (by rfl) T.n_len (by decide +kernel) (pa_cons (pv 0) pa_nil)) pa_nil)) (pg_name (i := 3) sc_same_run.nd rfl (Or.inl rfl))
  (pss_one (ps_for PassesOwn.never rfl (pi_range1 rfl T.n_range (pa_cons (pv 3) pa_nil)) (pg_name (i := 4) sc_same_run.nd rfl (Or.inl rfl))
  (pss_one (ps_if (PW.pt (pw_and (pt_cmpR op_gt (pe_ix ix_list (pv 2) (pv 4) (fun _ _ => rfl)) (pe_ix ix_list (pv 2) (pv 3) (fun _ _ => rfl)) (nomark _)) (pw_and1 (pt_val (pe_cl h_is_step hr (pa_cons (pv 0) (pa_cons (pv 4) (pa_cons (pv 3) pa_nil))))))))
  (pss_one (ps_ret pe_bl))
  pss_nil)))))
  (pss_one (ps_ret pe_bl)))), ?_⟩
    refine ⟨_, rfl, _, rfl, a, b, W, o, rfl, hW, hO, hperm, h64, fun m H1 hm fm S1 => ?_⟩
    have hW1 := hW.same S1
    obtain ⟨xs, ha, hT⟩ := hW1
    have hxl : xs.length = W.length := by rw [hT.1, List.length_map]
    have hW1 : WebAt H1 a W := ⟨xs, ha, hT⟩
    refine ⟨_, rfl, a, xs, rfl, .inl (SqL.of ha), ((W.length : Nat) : Int), by rw [hxl], by omega, by omega, for_range (n := W.length) (fun t σ H' => ∃ v3 v4 : Option V, σ = [some (.ref a), some (.ref b), some (.ref m), v3, v4] ∧ H' = H1 ∧
        (List.range t).all (fun j => (List.range j).all fun i => !(decide (o.idxOf j < o.idxOf i) && stpAt W i j)) = true) ⟨none, none, rfl, rfl, rfl⟩ ?_ ?_⟩
    · rintro j σ H2 hj ⟨v3, v4, rfl, rfl, hall⟩
      refine ⟨_, rfl, (0 + (j : Int)), rfl, by omega, by omega, ?_⟩
      rw [show (0 + (j : Int)).toNat = j by omega]
      refine for_range (n := j) (fun t σ H' => ∃ v4 : Option V, σ = [some (.ref a), some (.ref b), some (.ref m), some (.int (0 + (j : Int))), v4] ∧ H' = H2 ∧
        (List.range t).all (fun i => !(decide (o.idxOf j < o.idxOf i) && stpAt W i j)) = true) ⟨v4, rfl, rfl, rfl⟩ ?_ ?_
      · rintro i σ H3 hi ⟨v4, rfl, rfl, hall2⟩
        have e1 := standsL_at (o := o) (n := W.length) (i := i) (by omega)
        have e2 := standsL_at (o := o) (n := W.length) (i := j) (by omega)
        refine ⟨_, rfl, _, rfl, _, _, _, _, rfl, rfl, SqL.of hm, (by rw [Int.zero_add]; exact natsV_ix e1), _, rfl, _, rfl, _, _, _, _, rfl, rfl, SqL.of hm, (by rw [Int.zero_add]; exact natsV_ix e2), _, _, rfl, rfl, _, rfl, ?_⟩
        have step : ∀ c : Bool, (!(decide (o.idxOf j < o.idxOf i) && stpAt W i j)) = c → c = true → (List.range (i + 1)).all (fun i => !(decide (o.idxOf j < o.idxOf i) && stpAt W i j)) = true := fun c h1 h2 => by
          rw [List.range_succ, List.all_append, hall2, List.all_cons, List.all_nil, h1, h2]
          rfl
        by_cases hlt : o.idxOf j < o.idxOf i
        · refine iteY (by omega) ?_
          refine ⟨_, rfl, _, rfl, _, rfl, a, W, i, j, (by simp only [Int.zero_add, List.append_nil]), hW1, by omega, by omega, _, rfl, ?_⟩
          cases hs : stpAt W i j with
          | false => exact ⟨_, rfl, rfl, step _ rfl (by rw [hs, Bool.and_false]; rfl)⟩
          | true =>
            have hq : keptB W o = false := by
              unfold keptB
              rw [List.all_eq_false]
              refine ⟨j, List.mem_range.mpr hj, fun h => ?_⟩
              have := List.all_eq_true.mp h i (List.mem_range.mpr hi)
              rw [hs, decide_eq_true hlt] at this
              cases this
            rw [hq] at q
            exact q _ S1
        · refine iteN (by omega) ?_
          exact ⟨_, rfl, rfl, step _ rfl (by rw [decide_eq_false hlt]; rfl)⟩
      · rintro σ H3 ⟨v4, rfl, rfl, hall2⟩
        refine ⟨_, _, rfl, rfl, ?_⟩
        rw [List.range_succ, List.all_append, hall, List.all_cons, List.all_nil, hall2]
        rfl
    · rintro σ H2 ⟨v3, v4, rfl, rfl, hall⟩
      have hq : keptB W o = true := hall
      rw [hq] at q
      exact q _ S1
end
end K72

set_option Elab.async false
set_option linter.all false
set_option maxRecDepth 100000
set_option maxHeartbeats 4000000
/-! looked_back -/
namespace K72
open PySem PySem.Spec PyProof.Rows L2 TL
def mxV (a b : List Nat) : List Nat := List.zipWith max a b
def lookN (W : List Tw) (tab : List (List Nat)) (j : Nat) : Nat → List Nat × List Nat
  | 0 => (List.replicate 8 0, [])
  | m + 1 =>
    if (lookN W tab j m).1.getD (hand W (j - 1 - m)) 0 ≤ rank W (j - 1 - m) ∧ stpAt W (j - 1 - m) j = true then
      (mxV (lookN W tab j m).1 (tab.getD (j - 1 - m) []), if hand W (j - 1 - m) ≠ hand W j then (lookN W tab j m).2 ++ [j - 1 - m] else (lookN W tab j m).2)
    else lookN W tab j m
def look (W : List Tw) (tab : List (List Nat)) (j : Nat) : List Nat × List Nat := ((lookN W tab j j).1.set (hand W j) (rank W j + 1), (lookN W tab j j).2)
def VecsAt (H : Hp) (a : Addr) (vss : List (List Nat)) : Prop := ∃ ls : List Addr, H a = some (.lst (ls.map V.ref)) ∧ ls.length = vss.length ∧ ∀ (i : Nat) l v, ls[i]? = some l → vss[i]? = some v → H l = some (.lst (natsV v))
theorem VecsAt.same {H H' : Hp} {a : Addr} {vss : List (List Nat)} (s : Same H H') (h : VecsAt H a vss) : VecsAt H' a vss := by
  obtain ⟨ls, e, l, f⟩ := h
  exact ⟨ls, s _ _ e, l, fun i l v a b => s _ _ (f i l v a b)⟩
theorem lookN_len {W : List Tw} {tab : List (List Nat)} {j : Nat} (h8 : ∀ v ∈ tab, v.length = 8) (hj : j ≤ tab.length) : ∀ m, m ≤ j → (lookN W tab j m).1.length = 8 ∧ (lookN W tab j m).2.length ≤ m
  | 0, _ => ⟨rfl, Nat.le_refl _⟩
  | m + 1, hm => by
    obtain ⟨h1, h2⟩ := lookN_len h8 hj m (by omega)
    unfold lookN
    split
    · refine ⟨?_, ?_⟩
      · show (List.zipWith max _ _).length = 8
        have e : (tab.getD (j - 1 - m) []).length = 8 := by
          rw [List.getD_eq_getElem?_getD, List.getElem?_eq_getElem (by omega)]
          exact h8 _ (List.getElem_mem _)
        rw [List.length_zipWith, h1, e]
        rfl
      · show (if _ then _ else _ : List Nat).length ≤ m + 1
        split
        · rw [List.length_append]
          exact Nat.succ_le_succ h2
        · omega
    · exact ⟨h1, by omega⟩
theorem lookN_mem {W : List Tw} {tab : List (List Nat)} {j : Nat} : ∀ m, m ≤ j → ∀ i ∈ (lookN W tab j m).2, i < j
  | 0, _ => fun i h => (by cases h)
  | m + 1, hm => fun i h => by
    have ih := lookN_mem (W := W) (tab := tab) (j := j) m (by omega)
    unfold lookN at h
    split at h
    · simp only at h
      split at h
      · rcases List.mem_append.mp h with h | h
        · exact ih i h
        · rw [List.mem_singleton.mp h]; omega
      · exact ih i h
    · exact ih i h
theorem mxV_take {a b : List Nat} {i x y : Nat} (h : a[i]? = some x) (h2 : b[i]? = some y) : (mxV a b).take (i + 1) = (mxV a b).take i ++ [max x y] := by
  have e : (mxV a b)[i]? = some (max x y) := by
    unfold mxV
    rw [List.getElem?_zipWith, h, h2]
  rw [List.take_succ, e] <;> rfl
def sp_looked_back : Sp := fun vs H Q _ => ∃ (a c tb : Addr) (W : List Tw) (vss : List (List Nat)) (j : Nat), vs = [.ref a, .ref c, .ref tb, .int (j : Int)] ∧ WebAt H a W ∧ PairsAt H c (nms W) ∧ VecsAt H tb vss ∧ j < W.length ∧ W.length ≤ 50 ∧ j ≤ vss.length ∧
  (∀ v ∈ vss, v.length = 8) ∧ (∀ x ∈ W, x.1 < 8) ∧
  ∀ t kn fi H', H' t = some (.tup [.ref kn, .ref fi]) → H' kn = some (.lst (natsV (look W vss j).1)) → H' fi = some (.lst (natsV (look W vss j).2)) → H kn = none → H fi = none → kn ≠ fi → Same H H' → Q (.ref t) H'
section
variable {P : Program} {w : World} {K : PySem.W.Frag} {mg : Str → Option Value} {base : Heap} {f : Addr} {fd : FuncData}
theorem sc_looked_back : FnScope ["web", "called", "table", "j", "known", "firsts", "i", "hand", "k", "a", "b"] ["web", "called", "table", "j"] (defScope s_looked_back) := ⟨rfl, rfl, rfl, by decide +kernel, rfl, by decide +kernel, by decide +kernel⟩
theorem ok_looked_back (T : Txt K mg) (F : FnP K "looked_back" "looked_back" s_looked_back [] f fd) (h_is_step : Def1 P w K mg base "is_step" ["web", "i", "j"] [] 2 sp_is_step) : FnOk P w K mg base CX0 3 f fd ["web", "called", "table", "j"] sp_looked_back := by
  refine fok F sc_looked_back (fun vs H Q E h => ?_) (fun cdv A outer s H vs Q E hr h => ?_)
  · obtain ⟨_, _, _, _, _, _, rfl, _⟩ := h
    rfl
  · obtain ⟨a, c, tb, W, vss, j, rfl, hW, hC, hV, hj, h50, hjv, hv8, hw8, q⟩ := h
    refine ⟨_, (pss_cons (ps_set (i := 4) sc_looked_back.nd rfl (Or.inl rfl) (pe_op op_rep (pe_lst (pa_cons pe_int pa_nil)) (pe_gl T.g_HANDS)))
  (pss_cons (ps_set (i := 5) sc_looked_back.nd rfl (Or.inl rfl) (pe_lst pa_nil))
  (pss_cons (ps_for PassesOwn.never rfl (pi_range3 rfl T.n_range (pa_cons (pe_op op_sub (pv 3) pe_int) (pa_cons (pe_un un_neg pe_int) (pa_cons (pe_un un_neg pe_int) pa_nil)))) (pg_name (i := 6) sc_looked_back.nd rfl (Or.inl rfl))
  (pss_cons (ps_asg (pe_ix ix_list (pv 1) (pv 6) (fun _ _ => rfl)) (pg_tup (by rfl) (pgs_cons (pg_name (i := 7) sc_looked_back.nd rfl (Or.inl rfl)) (pgs_cons (pg_name (i := 8) sc_looked_back.nd rfl (Or.inl rfl)) pgs_nil))))
  (pss_one (ps_if (PW.pt (pw_and (pt_cmpR op_ge (pv 8) (pe_ix ix_list (pv 4) (pv 7) (fun _ _ => rfl)) (nomark _)) (pw_and1 (pt_val (pe_cl h_is_step hr (pa_cons (pv 0) (pa_cons (pv 6) (pa_cons (pv 3) pa_nil))))))))
  (pss_cons (ps_setLc (i := 4) (own := [("a", 9), ("b", 10)]) (g := gTup K 2 (gCons (gName 9) (gCons (gName 10) gNil))) (tt := tYes) rfl sc_looked_back.nd rfl rfl (sw_true rfl rfl rfl (by decide +kernel)) (pi_zip rfl T.n_zip (pa_cons (pv 4) (pa_cons (pe_ix ix_list (pv 2) (pv 6) (fun _ _ => rfl)) pa_nil))) (blkOk_by (own := [("a", 9), ("b", 10)]) (N := ["web", "called", "table", "j", "known", "firsts", "i", "hand", "k", "a", "b"]) (sc := defScope s_looked_back) (by decide +kernel)) (fun _ _ _ _ _ => (pg_tup (by rfl) (pgs_cons (pg_name (i := 9) sc_looked_back.nd rfl (Or.inl rfl)) (pgs_cons (pg_name (i := 10) sc_looked_back.nd rfl (Or.inl rfl)) pgs_nil)))) (fun _ _ _ _ _ => pts_nil) (fun _ _ _ _ _ => (pe_callB (call_max2 rfl) (by rfl) T.n_max (by decide +kernel) (pa_cons (pv 9) (pa_cons (pv 10) pa_nil)))))
  (pss_one (ps_if (pt_cmpR op_ne (pv 7) (pe_ix ix_tup (pe_ix ix_list (pv 1) (pv 3) (fun _ _ => rfl)) pe_int (fun _ _ => rfl)) (nomark _))
  (pss_one (ps_expr (pe_bm PySem.F.plainAttrs_list PySem.F.slot_list_append PySem.F.type_list_append mt_append (pv 5) (pa_cons (pv 6) pa_nil))))
  pss_nil)))
  pss_nil))))
  (pss_cons (ps_asg (pe_op op_add (pe_ix ix_tup (pe_ix ix_list (pv 1) (pv 3) (fun _ _ => rfl)) pe_int (fun _ _ => rfl)) pe_int) (pg_sub (pv 4) (pe_ix ix_tup (pe_ix ix_list (pv 1) (pv 3) (fun _ _ => rfl)) pe_int (fun _ _ => rfl)) set_list))
  (pss_one (ps_ret (pe_tup (pa_cons (pv 4) (pa_cons (pv 5) pa_nil))))))))), ?_⟩
    have hC0 := hC
    have hV0 := hV
    obtain ⟨cs, hc, hcT⟩ := hC0
    obtain ⟨ls, hls, hll, hlv⟩ := hV0
    have hlen := lookN_len (W := W) hv8 hjv
    refine ⟨by show 1 ≤ sizeLine; decide, fun l0 hl0 => ?_⟩
    refine ⟨l0, 8, _, rfl, rfl, upd_same, by decide, by decide, by show 1 * 8 ≤ sizeLine; decide, fun kn0 hkn => ?_⟩
    rw [show (List.replicate (Int.toNat 8) [V.int 0]).flatten = natsV (lookN W vss j 0).1 by rw [flat_rep, natsV_rep] <;> rfl]
    have S1 : Same H (upd (upd H l0 (.lst [.int 0])) kn0 (.lst (natsV (lookN W vss j 0).1))) := (Same.new hl0).trans (Same.new hkn)
    have fkn0 : H kn0 = none := (Same.new hl0).free hkn
    refine ⟨by show 0 ≤ sizeLine; decide, fun fi hfi => ?_⟩
    have nkf : kn0 ≠ fi := ne_of_none upd_same hfi
    have ffi : H fi = none := S1.free hfi
    have S2 := S1.trans (Same.new (o := .lst []) hfi)
    have hkn2 : (upd (upd (upd H l0 (.lst [.int 0])) kn0 (.lst (natsV (lookN W vss j 0).1))) fi (.lst [])) kn0 = some (.lst (natsV (lookN W vss j 0).1)) := (upd_ne nkf).trans upd_same
    have hfi2 : (upd (upd (upd H l0 (.lst [.int 0])) kn0 (.lst (natsV (lookN W vss j 0).1))) fi (.lst [])) fi = some (.lst (natsV (lookN W vss j 0).2)) := upd_same
    generalize upd (upd (upd H l0 (.lst [.int 0])) kn0 (.lst (natsV (lookN W vss j 0).1))) fi (.lst []) = H2 at S2 hkn2 hfi2
    refine ⟨_, rfl, _, _, rfl, rfl, _, rfl, _, rfl, _, _, _, j, rfl, ?_, for_rangeC (n := j) (fun m σ H' => ∃ (kn : Addr) (v6 v7 v8 v9 v10 : Option V), σ = [some (.ref a), some (.ref c), some (.ref tb), some (.int (j : Int)), some (.ref kn), some (.ref fi), v6, v7, v8, v9, v10] ∧
        Same H H' ∧ H kn = none ∧ kn ≠ fi ∧ H' kn = some (.lst (natsV (lookN W vss j m).1)) ∧ H' fi = some (.lst (natsV (lookN W vss j m).2)))
      ⟨kn0, none, none, none, none, none, rfl, S2, fkn0, nkf, hkn2, hfi2⟩ ?_ ?_⟩
    · have e := RgC.neg (i := (j : Int) - 1) (j := -1) (by omega) (by omega) (by omega) (by omega)
      rw [show ((j : Int) - 1 - -1).toNat = j by omega] at e
      exact e
    · rintro m σ H3 hm ⟨kn, v6, v7, v8, v9, v10, rfl, S3, fkn, nkf3, hkn3, hfi3⟩
      have ei : (j : Int) - 1 + (m : Nat) * -1 = ((j - 1 - m : Nat) : Int) := by omega
      simp only [ei]
      generalize hi : j - 1 - m = i
      have hij : i < j := by omega
      have hcn : (nms W)[i]? = some (hand W i, rank W i) := nms_at (by omega)
      obtain ⟨t, et, ht⟩ := hcT.at (x := pairV (hand W i, rank W i)) (by rw [List.getElem?_map, hcn] <;> rfl)
      obtain ⟨x, ex⟩ : ∃ x, W[i]? = some x := ⟨_, List.getElem?_eq_getElem (by omega)⟩
      have hh8 : hand W i < 8 := by rw [hand_of_at ex]; exact hw8 x (List.mem_of_getElem? ex)
      obtain ⟨hl1, hl2⟩ := hlen m (by omega)
      obtain ⟨u, eu⟩ : ∃ u, (lookN W vss j m).1[hand W i]? = some u := ⟨_, List.getElem?_eq_getElem (by omega)⟩
      have egd : (lookN W vss j m).1.getD (hand W i) 0 = u := getD_of eu
      refine ⟨_, rfl, _, rfl, _, _, _, _, rfl, rfl, SqL.of (S3 _ _ hc), atI_nat et, t, _, rfl, SqT.of (S3 _ _ ht), rfl, _, _, rfl, _, _, rfl, rfl, ?_⟩
      refine ⟨_, rfl, _, rfl, _, rfl, _, _, _, _, rfl, rfl, SqL.of hkn3, natsV_ix eu, _, _, rfl, rfl, _, rfl, ?_⟩
      have stay : ¬ (u ≤ rank W i ∧ stpAt W i j = true) → lookN W vss j (m + 1) = lookN W vss j m := fun h => by
        show (if _ then _ else _) = _
        rw [hi, egd, if_neg h]
      by_cases hge : u ≤ rank W i
      · refine iteY (by omega) ?_
        refine ⟨_, rfl, _, rfl, _, rfl, a, W, i, j, rfl, hW.same S3, by omega, hj, _, rfl, ?_⟩
        cases hs : stpAt W i j with
        | false => exact ⟨kn, _, _, _, _, _, rfl, S3, fkn, nkf3, by rw [stay (fun h => by rw [hs] at h; cases h.2)]; exact hkn3, by rw [stay (fun h => by rw [hs] at h; cases h.2)]; exact hfi3⟩
        | true =>
          refine iteT ?_
          have enew : lookN W vss j (m + 1) = (mxV (lookN W vss j m).1 (vss.getD i []), if hand W i ≠ hand W j then (lookN W vss j m).2 ++ [i] else (lookN W vss j m).2) := by
            show (if _ then _ else _) = _
            rw [hi, egd, if_pos ⟨hge, hs⟩]
          obtain ⟨l, el⟩ : ∃ l, ls[i]? = some l := ⟨_, List.getElem?_eq_getElem (by omega)⟩
          obtain ⟨v, ev⟩ : ∃ v, vss[i]? = some v := ⟨_, List.getElem?_eq_getElem (by omega)⟩
          have hl3 := S3 _ _ (hlv i l v el ev)
          have hv8' := hv8 v (List.mem_of_getElem? ev)
          have egv : vss.getD i [] = v := getD_of ev
          have hls3 : atI (ls.map V.ref) (i : Int) = some (V.ref l) := atI_nat (by rw [List.getElem?_map, el] <;> rfl)
          refine ⟨_, rfl, _, rfl, _, rfl, _, _, _, _, rfl, rfl, SqL.of (S3 _ _ hls), hls3, kn, l, _, _, rfl, SqL.of hkn3, SqL.of hl3, fun D hD => ?_⟩
          have fD := S3.free hD
          have nkD : kn ≠ D := ne_of_none hkn3 hD
          have nlD : l ≠ D := ne_of_none hl3 hD
          have nfD : fi ≠ D := ne_of_none hfi3 hD
          have hmx : (mxV (lookN W vss j m).1 v).length = 8 := by unfold mxV; rw [List.length_zipWith, hl1, hv8'] <;> rfl
          refine lc_it (walk_zip (xs := natsV (lookN W vss j m).1) (ys := natsV v) (n := 8) (by rw [natsV_len, natsV_len, hl1, hv8'] <;> rfl)) (fun q H' => Same H H' ∧ H' kn = some (.lst (natsV (lookN W vss j m).1)) ∧ H' l = some (.lst (natsV v)) ∧ H' fi = some (.lst (natsV (lookN W vss j m).2)) ∧
              H' D = some (.lst (natsV ((mxV (lookN W vss j m).1 v).take q)))) ⟨S3.trans (Same.new hD), (upd_ne nkD).trans hkn3, (upd_ne nlD).trans hl3, (upd_ne nfD).trans hfi3, upd_same⟩ (fun q H' _ ⟨_, h1, h2, _, _⟩ => ⟨SqL.of h1, SqL.of h2⟩) ?_ ?_
          · rintro q y H4 H5 hq ⟨S4, hk4, hl4, hf4, hD4⟩ ⟨z, y1, y2, rfl, hz, rfl, e1, e2⟩
            obtain ⟨k1, ek1⟩ : ∃ k1, (lookN W vss j m).1[q]? = some k1 := ⟨_, List.getElem?_eq_getElem (by omega)⟩
            obtain ⟨k2, ek2⟩ : ∃ k2, v[q]? = some k2 := ⟨_, List.getElem?_eq_getElem (by omega)⟩
            have e1 : (natsV (lookN W vss j m).1)[q]? = some y1 := e1
            have e2 : (natsV v)[q]? = some y2 := e2
            rw [natsV_get ek1] at e1
            rw [natsV_get ek2] at e2
            cases e1
            cases e2
            have Sz := Same.new (o := .tup [.int (k1 : Int), .int (k2 : Int)]) hz
            refine ⟨z, _, rfl, SqT.of upd_same, rfl, _, _, rfl, _, _, rfl, rfl, rfl, ?_⟩
            refine ⟨_, rfl, _, rfl, _, _, rfl, ?_⟩
            have emx : (if ((k2 : Nat) : Int) > (k1 : Int) then ((k2 : Nat) : Int) else (k1 : Int)) = ((max k1 k2 : Nat) : Int) := by
              by_cases h : k1 < k2
              · rw [if_pos (by omega)]; congr 1; omega
              · rw [if_neg (by omega)]; congr 1; omega
            rw [emx]
            refine ⟨_, Sz _ _ hD4, Nat.lt_of_le_of_lt (by rw [natsV_len, List.length_take]; omega : _ ≤ 8) (by decide), ?_⟩
            rw [natsV_snoc, ← mxV_take ek1 ek2]
            exact ⟨Same.mut (S4.trans Sz) fD, (upd_ne nkD).trans (Sz _ _ hk4), (upd_ne nlD).trans (Sz _ _ hl4), (upd_ne nfD).trans (Sz _ _ hf4), upd_same⟩
          rintro H4 ⟨S4, hk4, hl4, hf4, hD4⟩
          rw [List.take_of_length_le (by omega)] at hD4
          have hcj : (nms W)[j]? = some (hand W j, rank W j) := nms_at hj
          obtain ⟨tj, etj, htj⟩ := hcT.at (x := pairV (hand W j, rank W j)) (by rw [List.getElem?_map, hcj] <;> rfl)
          refine ⟨_, rfl, _, rfl, _, rfl, _, _, _, _, rfl, rfl, SqL.of (S4 _ _ hc), atI_nat etj, _, _, _, _, rfl, rfl, SqT.of (S4 _ _ htj), rfl, rfl, _, rfl, ?_⟩
          rw [egv] at enew
          by_cases hh : hand W i = hand W j
          · rw [if_neg (by simpa using hh)] at enew
            refine iteNS (by rw [hh]) ?_
            exact ⟨D, _, _, _, _, _, rfl, S4, fD, nfD.symm, by rw [enew]; exact hD4, by rw [enew]; exact hf4⟩
          · rw [if_pos hh] at enew
            refine iteNY (fun e => hh (by have := V.int.inj e; omega)) ?_
            refine ⟨_, rfl, .inl ⟨rfl, _, SqL.of hf4⟩, _, rfl, fi, _, _, rfl, rfl, hf4, Nat.lt_of_le_of_lt (by rw [natsV_len]; omega : _ ≤ 50) (by decide), ?_⟩
            rw [natsV_snoc]
            exact ⟨D, _, _, _, _, _, rfl, Same.mut S4 ffi, fD, nfD.symm, by rw [enew, upd_ne nfD.symm]; exact hD4, by rw [enew, upd_same]⟩
      · refine iteN (by omega) ?_
        exact ⟨kn, _, _, _, _, _, rfl, S3, fkn, nkf3, by rw [stay (fun h => hge h.1)]; exact hkn3, by rw [stay (fun h => hge h.1)]; exact hfi3⟩
    · rintro σ H3 ⟨kn, v6, v7, v8, v9, v10, rfl, S3, fkn, nkf3, hkn3, hfi3⟩
      have hcn : (nms W)[j]? = some (hand W j, rank W j) := nms_at hj
      obtain ⟨t, et, ht⟩ := hcT.at (x := pairV (hand W j, rank W j)) (by rw [List.getElem?_map, hcn] <;> rfl)
      obtain ⟨x, ex⟩ : ∃ x, W[j]? = some x := ⟨_, List.getElem?_eq_getElem (by omega)⟩
      have hh8 : hand W j < 8 := by rw [hand_of_at ex]; exact hw8 x (List.mem_of_getElem? ex)
      obtain ⟨hl1, hl2⟩ := hlen j (by omega)
      refine ⟨_, rfl, _, rfl, _, _, _, _, rfl, rfl, SqL.of (S3 _ _ hc), atI_nat et, _, _, _, _, rfl, rfl, SqT.of (S3 _ _ ht), rfl, _, _, rfl, rfl, ?_⟩
      refine ⟨_, rfl, _, rfl, _, rfl, _, _, _, _, rfl, rfl, SqL.of (S3 _ _ hc), atI_nat et, _, _, _, _, rfl, rfl, SqT.of (S3 _ _ ht), rfl, _, _, _, hand W j, rfl, rfl, hkn3, ixN_nat (by rw [natsV_len]; omega), ?_⟩
      have e1 : ((rank W j : Nat) : Int) + 1 = ((rank W j + 1 : Nat) : Int) := by omega
      simp only [e1, natsV_set]
      refine ⟨_, rfl, _, rfl, by show 2 ≤ sizeLine; decide, fun z hz => ?_⟩
      refine q z kn fi _ upd_same ?_ ?_ fkn ffi nkf3 ((Same.mut S3 fkn).trans (Same.new hz))
      · exact Same.new hz _ _ upd_same
      · exact Same.new hz _ _ ((upd_ne nkf3.symm).trans hfi3)
end
end K72

set_option Elab.async false
set_option linter.all false
set_option maxRecDepth 100000
set_option maxHeartbeats 4000000
/-! notes, record_of -/
namespace K72
open PySem PySem.Spec PyProof.Rows L2 TL
def tabs (W : List Tw) : Nat → List (List Nat)
  | 0 => []
  | j + 1 => tabs W j ++ [(look W (tabs W j) j).1]
def quadOf (W : List Tw) (j i : Nat) : List Nat := [hand W i, rank W i, hand W j, rank W j]
def quads (W : List Tw) : Nat → List (List Nat)
  | 0 => []
  | j + 1 => quads W j ++ (look W (tabs W j) j).2.map (quadOf W j)
theorem tabs_len (W : List Tw) : ∀ j, (tabs W j).length = j
  | 0 => rfl
  | j + 1 => by show (tabs W j ++ _).length = j + 1; rw [List.length_append, tabs_len W j] <;> rfl
theorem tabs_8 (W : List Tw) : ∀ j, ∀ v ∈ tabs W j, v.length = 8
  | 0 => fun v h => (by cases h)
  | j + 1 => fun v h => by
    have ih := tabs_8 W j
    rcases List.mem_append.mp h with h | h
    · exact ih v h
    · rw [List.mem_singleton.mp h]
      show (List.set _ _ _).length = 8
      rw [List.length_set]
      exact (lookN_len ih (by rw [tabs_len] <;> exact Nat.le_refl _) j (Nat.le_refl _)).1
theorem look_few (W : List Tw) (j : Nat) : (look W (tabs W j) j).2.length ≤ j := (lookN_len (tabs_8 W j) (by rw [tabs_len] <;> exact Nat.le_refl _) j (Nat.le_refl _)).2
theorem quads_len (W : List Tw) : ∀ j, j ≤ 8 → (quads W j).length ≤ j * 7
  | 0, _ => Nat.le_refl _
  | j + 1, h => by
    have ih := quads_len W j (by omega)
    have h2 := look_few W j
    show (quads W j ++ _).length ≤ _
    rw [List.length_append, List.length_map]
    omega
/-- lists of tuples of numbers -/
def NTAt (H : Hp) (a : Addr) (N : List (List Nat)) : Prop := ∃ xs, H a = some (.lst xs) ∧ TupsAt H xs (N.map natsV)
theorem NTAt.same {H H' : Hp} {a : Addr} {N : List (List Nat)} (s : Same H H') (h : NTAt H a N) : NTAt H' a N := by
  obtain ⟨xs, e, t⟩ := h
  exact ⟨xs, s _ _ e, t.ts (TS.of s)⟩
def RecAt (H : Hp) (r : Addr) (cs : List Nat) (N : List (List Nat)) : Prop := ∃ c l, H r = some (.tup [.ref c, .ref l]) ∧ H c = some (.lst (natsV cs)) ∧ NTAt H l N
theorem RecAt.same {H H' : Hp} {r : Addr} {cs : List Nat} {N : List (List Nat)} (s : Same H H') (h : RecAt H r cs N) : RecAt H' r cs N := by
  obtain ⟨c, l, e1, e2, e3⟩ := h
  exact ⟨c, l, s _ _ e1, s _ _ e2, e3.same s⟩
theorem perm_split {α : Type} {x : α} {l zs : List α} (h : (x :: l).Perm zs) : ∃ a b, zs = a ++ x :: b ∧ l.Perm (a ++ b) := by
  have hm : x ∈ zs := h.mem_iff.mp (List.mem_cons_self ..)
  obtain ⟨a, b, rfl⟩ := List.append_of_mem hm
  exact ⟨a, b, rfl, (List.Perm.cons_inv (h.trans List.perm_middle))⟩
/-- the same tuples in another order -/
theorem TupsAt.perm {H : Hp} {xs ys : List V} {N : List (List Nat)} (h : TupsAt H xs (N.map natsV)) (hp : ys.Perm xs) : ∃ N' : List (List Nat), N'.Perm N ∧ TupsAt H ys (N'.map natsV) := by
  induction ys generalizing xs N with
  | nil =>
    have e : xs = [] := hp.symm.eq_nil
    subst e
    have e2 : N = [] := by
      have := h.1
      rw [List.length_map] at this
      exact List.eq_nil_of_length_eq_zero this.symm
    subst e2
    exact ⟨[], .nil, TupsAt.nil _⟩
  | cons y ys ih =>
    obtain ⟨a, b, rfl, h2⟩ := perm_split hp
    have hl := h.1
    rw [List.length_map, List.length_append, List.length_cons] at hl
    have ha : a.length < N.length := by omega
    obtain ⟨n, en⟩ : ∃ n, N[a.length]? = some n := ⟨_, List.getElem?_eq_getElem ha⟩
    have eN : N = N.take a.length ++ n :: N.drop (a.length + 1) := by
      have := List.getElem?_eq_some_iff.mp en
      rw [← this.2, List.getElem_cons_drop this.1, List.take_append_drop]
    have hy : ∃ t, y = .ref t ∧ H t = some (.tup (natsV n)) := h.2 a.length y (natsV n) (by simp) (by rw [List.getElem?_map, en] <;> rfl)
    have hrest : TupsAt H (a ++ b) ((N.take a.length ++ N.drop (a.length + 1)).map natsV) := by
      refine ⟨by rw [List.length_map, List.length_append, List.length_append, List.length_take, List.length_drop]; omega, fun i v x hv hx => ?_⟩
      by_cases hi : i < a.length
      · rw [List.getElem?_append_left hi] at hv
        rw [List.getElem?_map, List.getElem?_append_left (by rw [List.length_take]; omega), List.getElem?_take_of_lt hi, ← List.getElem?_map] at hx
        exact h.2 i v x (by rw [List.getElem?_append_left hi]; exact hv) hx
      · rw [List.getElem?_append_right (by omega)] at hv
        rw [List.getElem?_map, List.getElem?_append_right (by rw [List.length_take]; omega), List.length_take, List.getElem?_drop, ← List.getElem?_map] at hx
        have e1 : a.length + 1 + (i - min a.length N.length) = i + 1 := by omega
        rw [e1] at hx
        refine h.2 (i + 1) v x ?_ hx
        rw [List.getElem?_append_right (by omega), show i + 1 - a.length = (i - a.length) + 1 by omega, List.getElem?_cons_succ]
        exact hv
    obtain ⟨N', hN', hT'⟩ := ih hrest h2
    refine ⟨n :: N', ?_, ?_⟩
    · have e3 : N.Perm (n :: (N.take a.length ++ N.drop (a.length + 1))) := by
        conv => lhs; rw [eN]
        exact List.perm_middle
      exact (hN'.cons n).trans e3.symm
    · obtain ⟨t, rfl, ht⟩ := hy
      refine ⟨by rw [List.length_cons, List.map_cons, List.length_cons, hT'.1], fun i v x hv hx => ?_⟩
      cases i with
      | zero =>
        simp only [List.getElem?_cons_zero, List.map_cons, Option.some.injEq] at hv hx
        subst hv hx
        exact ⟨t, rfl, ht⟩
      | succ i =>
        rw [List.getElem?_cons_succ] at hv
        rw [List.map_cons, List.getElem?_cons_succ] at hx
        exact hT'.2 i v x hv hx
def sp_notes : Sp := fun vs H Q _ => ∃ (a : Addr) (W : List Tw), vs = [.ref a] ∧ WebAt H a W ∧ W.length ≤ 8 ∧ (∀ x ∈ W, x.1 < 8) ∧ ∀ l N H', NTAt H' l N → N.Perm (quads W W.length) → H l = none → Same H H' → Q (.ref l) H'
def sp_record_of : Sp := fun vs H Q _ => ∃ (a : Addr) (W : List Tw) (n : Nat), vs = [.int (n : Int), .ref a] ∧ WebAt H a W ∧ W.length ≤ 8 ∧ n ≤ 8 ∧ (∀ x ∈ W, x.1 < n) ∧ ∀ r N H', RecAt H' r (cntV (W.map Prod.fst) n) N → N.Perm (quads W W.length) → Same H H' → Q (.ref r) H'
theorem hand_lt {W : List Tw} {n i : Nat} (h : ∀ x ∈ W, x.1 < n) (hi : i < W.length) : hand W i < n := by
  rw [hand_of_at (List.getElem?_eq_getElem hi)]
  exact h _ (List.getElem_mem hi)
theorem rank_lt {W : List Tw} {i : Nat} (hi : i < W.length) : rank W i < W.length := by
  unfold rank
  refine Nat.lt_of_le_of_lt List.count_le_length ?_
  rw [List.length_map, List.length_take]
  omega
theorem quads_bd {W : List Tw} (h8 : ∀ x ∈ W, x.1 < 8) (hl : W.length ≤ 8) : ∀ j, j ≤ W.length → ∀ q ∈ quads W j, q.length = 4 ∧ ∀ m ∈ q, m < 8
  | 0, _ => fun q h => (by cases h)
  | j + 1, hj => fun q h => by
    rcases List.mem_append.mp h with h | h
    · exact quads_bd h8 hl j (by omega) q h
    · obtain ⟨i, hi, rfl⟩ := List.mem_map.mp h
      have hij := lookN_mem j (Nat.le_refl _) i hi
      have a1 := hand_lt h8 (i := i) (by omega)
      have a2 := hand_lt h8 (i := j) (by omega)
      have a3 := rank_lt (W := W) (i := i) (by omega)
      have a4 := rank_lt (W := W) (i := j) (by omega)
      refine ⟨rfl, fun m hm => ?_⟩
      simp only [quadOf, List.mem_cons, List.not_mem_nil, or_false] at hm
      omega
section
variable {P : Program} {w : World} {K : PySem.W.Frag} {mg : Str → Option Value} {base : Heap} {f : Addr} {fd : FuncData}
theorem sc_notes : FnScope ["web", "called", "table", "found", "j", "known", "firsts", "i"] ["web"] (defScope s_notes) := ⟨rfl, rfl, rfl, by decide +kernel, rfl, by decide +kernel, by decide +kernel⟩
theorem ok_notes (T : Txt K mg) (F : FnP K "notes" "notes" s_notes [] f fd) (h_names : Def1 P w K mg base "names" ["web"] [] 1 sp_names) (h_looked_back : Def1 P w K mg base "looked_back" ["web", "called", "table", "j"] [] 3 sp_looked_back) : FnOk P w K mg base CX0 4 f fd ["web"] sp_notes := by
  refine fok F sc_notes (fun vs H Q E h => ?_) (fun cdv A outer s H vs Q E hr h => ?_)
  · obtain ⟨_, _, rfl, _⟩ := h
    rfl
  · obtain ⟨a, W, rfl, hW, hl8, h8, q⟩ := h
    refine ⟨_, (pss_cons (ps_set (i := 1) sc_notes.nd rfl (Or.inr rfl) (pe_cl h_names hr (pa_cons (pv 0) pa_nil)))
  (pss_cons (ps_set (i := 2) sc_notes.nd rfl (Or.inl rfl) (pe_lst pa_nil))
  (pss_cons (ps_set (i := 3) sc_notes.nd rfl (Or.inl rfl) (pe_lst pa_nil))
  (pss_cons (ps_for PassesOwn.never rfl (pi_range1 rfl T.n_range (pa_cons (pe_callB call_len_seq (by rfl) T.n_len (by decide +kernel) (pa_cons (pv 0) pa_nil)) pa_nil)) (pg_name (i := 4) sc_notes.nd rfl (Or.inr rfl))
  (pss_cons (ps_asg (pe_cl h_looked_back hr (pa_cons (pv 0) (pa_cons (pv 1) (pa_cons (pv 2) (pa_cons (pv 4) pa_nil))))) (pg_tup (by rfl) (pgs_cons (pg_name (i := 5) sc_notes.nd rfl (Or.inl rfl)) (pgs_cons (pg_name (i := 6) sc_notes.nd rfl (Or.inl rfl)) pgs_nil))))
  (pss_cons (ps_expr (pe_bm PySem.F.plainAttrs_list PySem.F.slot_list_append PySem.F.type_list_append mt_append (pv 2) (pa_cons (pv 5) pa_nil)))
  (pss_one (ps_expr (pe_bm PySem.F.plainAttrs_list PySem.F.slot_list_extend PySem.F.type_list_extend mt_extend (pv 3) (pa_cons (pe_lc (own := [("i", 7)]) (g := gName 7) (tt := tYes) (te := tOp (rCatA K) (tOp (rIxL K) (tVar 1) (tVar 7)) (tOp (rIxL K) (tVar 1) (tVar 4))) rfl sc_notes.nd (pi_list (pv 6)) (blkOk_by (own := [("i", 7)]) (N := ["web", "called", "table", "found", "j", "known", "firsts", "i"]) (sc := defScope s_notes) (by decide +kernel)) (fun _ _ _ _ _ => (pg_name (i := 7) sc_notes.nd rfl (Or.inl rfl))) (fun _ _ _ _ _ => pts_nil) (fun _ _ _ _ _ => (pe_op op_catA (pe_ix ix_list (pv 1) (pv 7) (fun _ _ => rfl)) (pe_ix ix_list (pv 1) (pv 4) (fun _ _ => rfl))))) pa_nil)))))))
  (pss_one (ps_ret (pe_callB (cr_sortT (d := 4) (B := 8) (by decide)) (by rfl) T.n_sorted (by decide +kernel) (pa_cons (pv 3) pa_nil)))))))), ?_⟩
    have hW0 := hW
    obtain ⟨ws, ha, hT⟩ := hW0
    have hwl : ws.length = W.length := by rw [hT.1, List.length_map]
    refine ⟨_, rfl, a, W, rfl, hW, by omega, h8, fun c H1 hC fc S1 => ?_⟩
    refine ⟨by show 0 ≤ sizeLine; decide, fun tb htb => ?_⟩
    refine ⟨by show 0 ≤ sizeLine; decide, fun fo hfo => ?_⟩
    have S2 := S1.trans ((Same.new (o := .lst []) htb).trans (Same.new (o := .lst []) hfo))
    have ntf : tb ≠ fo := ne_of_none upd_same hfo
    have htb2 : (upd (upd H1 tb (.lst [])) fo (.lst [])) tb = some (.lst []) := (upd_ne ntf).trans upd_same
    have hfo2 : (upd (upd H1 tb (.lst [])) fo (.lst [])) fo = some (.lst []) := upd_same
    have ftb := S1.free htb
    have ffo : H1 fo = none := (Same.new htb).free hfo
    have S12 : Same H1 (upd (upd H1 tb (.lst [])) fo (.lst [])) := (Same.new htb).trans (Same.new hfo)
    generalize upd (upd H1 tb (.lst [])) fo (.lst []) = H2 at S2 htb2 hfo2 S12
    refine ⟨_, rfl, a, ws, rfl, .inl (SqL.of (S2 _ _ ha)), ((W.length : Nat) : Int), by rw [hwl], by omega, by omega, for_range (n := W.length) (fun j σ H' => ∃ (v4 v5 v6 v7 : Option V) (ys : List V), σ = [some (.ref a), some (.ref c), some (.ref tb), some (.ref fo), v4, v5, v6, v7] ∧
        Same H1 H' ∧ VecsAt H' tb (tabs W j) ∧ (∃ ls : List Addr, H' tb = some (.lst (ls.map V.ref)) ∧ ∀ l ∈ ls, l ≠ tb ∧ l ≠ fo) ∧ H' fo = some (.lst ys) ∧ TupsAt H' ys ((quads W j).map natsV))
      ⟨none, none, none, none, [], rfl, S12, ⟨[], htb2, rfl, fun i l v a => (by simp at a)⟩, ⟨[], htb2, fun l h => (by cases h)⟩, hfo2, TupsAt.nil _⟩ ?_ ?_⟩
    · rintro j σ H3 hj ⟨v4, v5, v6, v7, ys, rfl, S3, hV, ⟨ls0, hls0, hne0⟩, hfo3, hT3⟩
      simp only [Int.zero_add]
      have S03 := S1.trans S3
      refine ⟨_, rfl, _, rfl, _, rfl, _, rfl, a, c, tb, W, tabs W j, j, rfl, hW.same S03, hC.same S3, hV, hj, by omega, by rw [tabs_len] <;> exact Nat.le_refl _, tabs_8 W j, h8, fun t kn fi H4 ht hkn hfi fkn ffi nkf S4 => ?_⟩
      refine ⟨t, _, rfl, SqT.of ht, rfl, _, _, rfl, _, _, rfl, rfl, ?_⟩
      -- table.append(known)
      have hls4 := S4 _ _ hls0
      have hlen0 : ls0.length = j := by
        obtain ⟨ls1, e1, e2, _⟩ := hV
        rw [hls0] at e1
        have := congrArg (fun o => match o with | some (HO.lst xs) => xs.length | _ => 0) e1
        simp only [List.length_map] at this
        rw [this, e2, tabs_len]
      have nknt : kn ≠ tb := (ne_of_none hls0 fkn).symm
      have nfit : fi ≠ tb := (ne_of_none hls0 ffi).symm
      have nknf : kn ≠ fo := (ne_of_none hfo3 fkn).symm
      have nfif : fi ≠ fo := (ne_of_none hfo3 ffi).symm
      refine ⟨_, rfl, .inl ⟨rfl, _, SqL.of hls4⟩, _, rfl, tb, _, _, rfl, rfl, hls4, Nat.lt_of_le_of_lt (by rw [List.length_map]; omega : _ ≤ 50) (by decide), ?_⟩
      have ts5 := TS.upd (u := .lst (ls0.map V.ref ++ [.ref kn])) hls4 (fun xs e => by cases e)
      have S5 : Same H1 (upd H4 tb (.lst (ls0.map V.ref ++ [.ref kn]))) := Same.mut (S3.trans S4) (by
        cases e : H1 tb with
        | none => rfl
        | some o =>
          have := htb
          rw [e] at this
          cases this)
      have hfi5 : (upd H4 tb (.lst (ls0.map V.ref ++ [.ref kn]))) fi = some (.lst (natsV (look W (tabs W j) j).2)) := (upd_ne nfit).trans hfi
      have hkn5 : (upd H4 tb (.lst (ls0.map V.ref ++ [.ref kn]))) kn = some (.lst (natsV (look W (tabs W j) j).1)) := (upd_ne nknt).trans hkn
      have hfo5 : (upd H4 tb (.lst (ls0.map V.ref ++ [.ref kn]))) fo = some (.lst ys) := (upd_ne ntf.symm).trans (S4 _ _ hfo3)
      have htb5 : (upd H4 tb (.lst (ls0.map V.ref ++ [.ref kn]))) tb = some (.lst ((ls0 ++ [kn]).map V.ref)) := by rw [upd_same, List.map_append] <;> rfl
      have hold5 : ∀ l v, H3 l = some (.lst v) → l ≠ tb → (upd H4 tb (.lst (ls0.map V.ref ++ [.ref kn]))) l = some (.lst v) := fun l v e n => (upd_ne n).trans (S4 _ _ e)
      have hT5 := (hT3.ts (TS.of S4)).ts ts5
      generalize upd H4 tb (.lst (ls0.map V.ref ++ [.ref kn])) = H5 at ts5 S5 hfi5 hkn5 hfo5 htb5 hold5 hT5
      -- found.extend([..])
      refine ⟨_, rfl, .inl ⟨rfl, _, SqL.of hfo5⟩, _, rfl, fi, rfl, ⟨_, SqL.of hfi5⟩, fun D hD => ?_⟩
      have nfoD : fo ≠ D := ne_of_none hfo5 hD
      have fD := S5.free hD
      refine lc_it (walk_list (xs := natsV (look W (tabs W j) j).2)) (fun i H' => ∃ zs, H' D = some (.lst zs) ∧ TupsAt H' zs ((((look W (tabs W j) j).2.take i).map (quadOf W j)).map natsV) ∧ Same H5 H') ⟨[], upd_same, TupsAt.nil _, Same.new hD⟩ (fun i H' _ ⟨zs, _, _, S⟩ => SqL.of (S _ _ hfi5)) ?_ ?_
      · rintro i y H6 H7 hi ⟨zs, hD6, hT6, S6⟩ ⟨rfl, hy⟩
        rw [natsV_len] at hi
        obtain ⟨i0, ei0⟩ : ∃ i0, (look W (tabs W j) j).2[i]? = some i0 := ⟨_, List.getElem?_eq_getElem hi⟩
        rw [natsV_get ei0] at hy
        cases hy
        have hij := lookN_mem j (Nat.le_refl _) i0 (List.mem_of_getElem? ei0)
        have hC7 := hC.same (S5.trans S6)
        obtain ⟨cs, hcs, hcT⟩ := hC7
        obtain ⟨t1, et1, ht1⟩ := hcT.at (i := i0) (x := pairV (hand W i0, rank W i0)) (by rw [List.getElem?_map, nms_at (i := i0) (by omega)] <;> rfl)
        obtain ⟨t2, et2, ht2⟩ := hcT.at (i := j) (x := pairV (hand W j, rank W j)) (by rw [List.getElem?_map, nms_at hj] <;> rfl)
        refine ⟨rfl, ?_⟩
        refine ⟨_, rfl, _, rfl, _, _, _, _, rfl, rfl, SqL.of hcs, atI_nat et1, _, rfl, _, rfl, _, _, _, _, rfl, rfl, SqL.of hcs, atI_nat et2, t1, t2, _, _, rfl, rfl, SqT.of ht1, SqT.of ht2, by show 4 ≤ sizeLine; decide, fun e => (by cases e), fun _ e => (by cases e), fun _ _ z hz => ?_⟩
        have Sz := Same.new (o := .tup (pairV (hand W i0, rank W i0) ++ pairV (hand W j, rank W j))) hz
        have hD7 := Sz _ _ hD6
        refine ⟨zs, hD7, Nat.lt_of_le_of_lt (by rw [hT6.1, List.length_map, List.length_map, List.length_take]; have := look_few W j; omega : _ ≤ 50) (by decide), ?_⟩
        have tsD := TS.upd (u := .lst (zs ++ [.ref z])) hD7 (fun xs e => by cases e)
        refine ⟨_, upd_same, ?_, Same.mut (S6.trans Sz) hD⟩
        rw [show (look W (tabs W j) j).2.take (i + 1) = (look W (tabs W j) j).2.take i ++ [i0] by rw [List.take_succ, ei0] <;> rfl, List.map_append, List.map_append]
        exact ((hT6.ts (TS.of Sz)).ts tsD).snoc (tsD _ _ upd_same)
      rintro H6 ⟨zs, hD6, hT6, S6⟩
      rw [natsV_len, List.take_length] at hT6
      have hfo6 := S6 _ _ hfo5
      have hyl : ys.length ≤ 56 := by
        rw [hT5.1, List.length_map]
        have := quads_len W j (by omega)
        omega
      have hzl : zs.length ≤ 50 := by
        rw [hT6.1, List.length_map, List.length_map]
        have := look_few W j
        omega
      refine ⟨fo, D, ys, zs, rfl, rfl, hfo6, hD6, szw (by omega), ?_⟩
      have ts7 := TS.upd (u := .lst (ys ++ zs)) hfo6 (fun xs e => by cases e)
      have S16 := S5.trans S6
      refine ⟨_, _, _, _, ys ++ zs, rfl, Same.mut S16 ffo, ⟨ls0 ++ [kn], (upd_ne ntf).trans (S6 _ _ htb5), ?_, fun i l v hl hv => ?_⟩, ⟨ls0 ++ [kn], (upd_ne ntf).trans (S6 _ _ htb5), fun l hl => ?_⟩, upd_same, ?_⟩
      · rw [List.length_append, tabs_len, hlen0] <;> rfl
      · show (upd H6 fo (.lst (ys ++ zs))) l = _
        have hvt : (tabs W j ++ [(look W (tabs W j) j).1])[i]? = some v := hv
        by_cases hi : i < j
        · rw [List.getElem?_append_left (by omega)] at hl
          rw [List.getElem?_append_left (by rw [tabs_len]; exact hi)] at hvt
          have hm := hne0 l (List.mem_of_getElem? hl)
          obtain ⟨ls1, e1, e2, e3⟩ := hV
          have e4 : ls1 = ls0 := by
            rw [hls0] at e1
            have e5 : ls0.map V.ref = ls1.map V.ref := by injection e1 with e; injection e
            exact (List.map_inj_right (fun a b h => by injection h)).mp e5.symm
          subst e4
          rw [upd_ne hm.2]
          exact S6 _ _ (hold5 l _ (e3 i l v hl hvt) hm.1)
        · have hlt := (List.getElem?_eq_some_iff.mp hl).1
          rw [List.length_append, hlen0] at hlt
          have ei : i = j := by
            have : i < j + 1 := hlt
            omega
          subst ei
          rw [List.getElem?_append_right (by omega), hlen0, Nat.sub_self] at hl
          rw [List.getElem?_append_right (by rw [tabs_len] <;> exact Nat.le_refl _), tabs_len, Nat.sub_self] at hvt
          simp only [List.getElem?_cons_zero, Option.some.injEq] at hl hvt
          subst hl hvt
          rw [upd_ne nknf]
          exact S6 _ _ hkn5
      · rcases List.mem_append.mp hl with hl | hl
        · exact hne0 l hl
        · rw [List.mem_singleton.mp hl]
          exact ⟨nknt, nknf⟩
      · show TupsAt _ _ ((quads W j ++ _).map natsV)
        rw [List.map_append]
        have hA := (hT5.ts (TS.of S6)).ts ts7
        have hB := hT6.ts ts7
        refine ⟨by rw [List.length_append, List.length_append, hA.1, hB.1], fun i v x hv hx => ?_⟩
        have hAl := hA.1
        by_cases hi : i < ys.length
        · rw [List.getElem?_append_left hi] at hv
          rw [List.getElem?_append_left (by omega)] at hx
          exact hA.2 i v x hv hx
        · rw [List.getElem?_append_right (by omega)] at hv
          rw [List.getElem?_append_right (by omega), ← hAl] at hx
          exact hB.2 _ v x hv hx
    · rintro σ H3 ⟨v4, v5, v6, v7, ys, rfl, S3, hV, _, hfo3, hT3⟩
      have hyl : ys.length < 64 := by
        rw [hT3.1, List.length_map]
        have := quads_len W W.length hl8
        omega
      refine ⟨_, rfl, fo, ys, rfl, SqL.of hfo3, hyl, fun x hx => ?_, fun zs p hp _ hfp => ?_⟩
      · obtain ⟨i, hi⟩ := List.getElem?_of_mem hx
        obtain ⟨qd, eqd⟩ : ∃ qd, (quads W W.length)[i]? = some qd := ⟨_, List.getElem?_eq_getElem (by have := (List.getElem?_eq_some_iff.mp hi).1; have := hT3.1; rw [List.length_map] at this; omega)⟩
        obtain ⟨t, rfl, ht⟩ := hT3.2 i x (natsV qd) hi (by rw [List.getElem?_map, eqd] <;> rfl)
        obtain ⟨b1, b2⟩ := quads_bd h8 hl8 _ (Nat.le_refl _) qd (List.mem_of_getElem? eqd)
        refine ⟨qd.map fun i : Nat => (i : Int), ⟨t, rfl, by rw [← natsV_ints]; exact SqT.of ht⟩, by rw [List.length_map]; exact b1, fun m hm => ?_⟩
        obtain ⟨k, hk, rfl⟩ := List.mem_map.mp hm
        have := b2 k hk
        omega
      · obtain ⟨N, hN, hTN⟩ := hT3.perm hp
        have Sp := Same.new (o := .lst zs) hfp
        exact q p N _ ⟨zs, upd_same, hTN.ts (TS.of Sp)⟩ hN (S1.free (S3.free hfp)) (S1.trans (S3.trans Sp))
theorem sc_record_of : FnScope ["hands", "web"] ["hands", "web"] (defScope s_record_of) := ⟨rfl, rfl, rfl, by decide +kernel, rfl, by decide +kernel, by decide +kernel⟩
theorem ok_record_of (F : FnP K "record_of" "record_of" s_record_of [] f fd) (h_counts_of : Def1 P w K mg base "counts_of" ["hands", "web"] [] 1 sp_counts_of) (h_notes : Def1 P w K mg base "notes" ["web"] [] 4 sp_notes) : FnOk P w K mg base CX0 5 f fd ["hands", "web"] sp_record_of := by
  refine fok F sc_record_of (fun vs H Q E h => ?_) (fun cdv A outer s H vs Q E hr h => ?_)
  · obtain ⟨_, _, _, rfl, _⟩ := h
    rfl
  · obtain ⟨a, W, n, rfl, hW, hl8, hn, hall, q⟩ := h
    refine ⟨_, (pss_one (ps_ret (pe_tup (pa_cons (pe_cl h_counts_of hr (pa_cons (pv 0) (pa_cons (pv 1) pa_nil))) (pa_cons (pe_cl h_notes hr (pa_cons (pv 1) pa_nil)) pa_nil))))), ?_⟩
    refine ⟨_, rfl, _, rfl, a, W, n, rfl, hW, hn, hall, fun c H1 hc fc S1 => ?_⟩
    refine ⟨_, rfl, a, W, rfl, hW.same S1, hl8, fun x hx => Nat.lt_of_lt_of_le (hall x hx) hn, fun l N H2 hN hp fl S2 => ?_⟩
    refine ⟨by show 2 ≤ sizeLine; decide, fun t ht => ?_⟩
    have St := Same.new (o := .tup [.ref c, .ref l]) ht
    exact q t N _ ⟨c, l, upd_same, St _ _ (S2 _ _ hc), hN.same St⟩ hp (S1.trans (S2.trans St))
end
end K72

set_option Elab.async false
set_option linter.all false
set_option maxRecDepth 100000
set_option maxHeartbeats 4000000
/-! dicts with tuple keys: setdefault, a display of one pair, items() walked -/
namespace K72
open PySem PySem.Spec PyProof.Rows L2
def rSetdT : V → List V → Hp → VK → Prop := fun x xs H Q => ∃ (a : Addr) (kvs : List (List Key × V)) (k : List Key) (b : Addr) (d : V), x = .ref a ∧ xs = [.ref b, d] ∧ H a = some (.dT kvs) ∧ H b = some (.tup (k.map kV)) ∧ kvs.length < sizeLine ∧
  (∀ v, valV kvs k = some v → Q v H) ∧ (valV kvs k = none → Q d (upd H a (.dT (putK kvs k d))))
section
variable {X : Cx}
theorem mt_setdT (hu : X.A.units + 1 < cLine) : MtR X "dict.setdefault" rSetdT := by
  intro pins s σ H x xs v us Q I rx rxs h
  obtain ⟨a, kvs, k, b, d, rfl, rfl, ha, hb, hl, q1, q2⟩ := h
  cases rx
  obtain ⟨u1, u2, rfl, r1, r2⟩ := vals2 rxs
  cases r1
  obtain ⟨z, hd, xs', rel, dd⟩ := dt_of I.hok ha
  have hz : xs'.length ≤ sizeLine := by rw [← Paired.length rel]; exact z
  refine call_setdefault_heap (hsz := hz) (tupleKind_room_in1 hu) (key_of I.hok hb) hd dd (fun p hp => ?_) fun hn h' dd' hs => ?_
  · have r := rel.val k
    rw [hp] at r
    cases ev : valV kvs k with
    | none =>
      rw [ev] at r
      exact (show False from r).elim
    | some v0 =>
      rw [ev] at r
      exact ⟨v0, H, I.tok _, r, q1 v0 ev⟩
  · have r := rel.val k
    rw [hn] at r
    cases ev : valV kvs k with
    | some v0 =>
      rw [ev] at r
      exact (show False from r).elim
    | none =>
      have hl2 : (putK kvs k d).length ≤ sizeLine := by
        have := length_putK kvs k d
        omega
      obtain ⟨q, es, ep, hq, h2, h3, h4, _, h5⟩ := dd'
      refine ⟨d, _, d_write (ob := .dT (putK kvs k d)) I (by rw [ha]; exact True.intro) hs ⟨q, hq⟩ ⟨hl2, hd, _, (rel.put k hb r2).keeps fun c ys ec => ?_, q, es, ep, hq, h2, h3, h4, h5⟩, r2, q2 ev⟩
      rw [upd_ne (ne_of ec ha (fun z => nomatch z))]
      exact ec
/-- {k: v}, k a tuple of ints and texts -/
def tDisp1T (tk tv : TE) : TE := fun σ H Q => ∀ p, H p = none → tk σ (upd H p (.dT [])) fun x H1 => tv σ H1 fun y H2 => ∃ (k : List Key) (b : Addr), x = .ref b ∧ H2 b = some (.tup (k.map kV)) ∧ H2 p = some (.dT []) ∧ Q (.ref p) (upd H2 p (.dT [(k, y)]))
theorem pe_disp1T {pos : Pos} {k v : Expr} {tk tv : TE} (hu : X.A.units + 1 < cLine) (hk : PE X k tk) (hv : PE X v tv) : PE X (.Dict [some k] [v] pos) (tDisp1T tk tv) := by
  refine ⟨fun pins s σ H Q I q => ?_⟩
  have hn := I.hok.fresh (Nat.le_refl s.heap.objs.size)
  have I1 := I.laid (a := s.heap.objs.size) (o := .dT []) (h' := s.heap.push { cls := .type "dict", data := .dict #[] }) (t' := s.toks) (fun _ _ q => Heap.get?_push_of_some _ q) (Nat.le_refl _) (dt_empty s.heap I.big)
  have e1 := zip_pairTrees [some k] [v] X.env pos rfl rfl
  rw [arm_eval_Dict, e1, dictDisplay_pairs (pairTrees [some k] [v] X.env pos) (by intro e; cases e) (by show 1 < 17; decide)]
  refine wpAny_bind (wpAny_standAt (wpAny_bind (wpAny_subDictH (knd := tupleKind (mixKind X.prog X.w)) ((Nat.lt_of_succ_lt hu)) (by show 1 ≤ 15; decide) ?_)))
  refine pairTrees_cons_walk (thn (hk.run pins _ σ _ _ I1 (q _ hn)) fun u s1 ⟨x, H1, I2, rx, q1⟩ => thn (hv.run pins s1 σ H1 _ I2 q1) fun w2 s2 ⟨y, H2, I3, ry, kk, b, ex, eb, ep, q2⟩ => pairTrees_nil_walk ?_)
  subst ex
  obtain rfl : u = Value.ref b := rx
  obtain ⟨z, hd, xs', rel, dd⟩ := dt_of I3.hok ep
  cases rel
  refine ⟨[(kk, b, w2)], ⟨rfl, rfl, key_of I3.hok eb, trivial⟩, dd, fun h' tk dd' hs => ?_⟩
  obtain ⟨o, es, ee, hq, h2, h3, h4, h6, h5⟩ := dd'
  have npb : b ≠ s.heap.objs.size := ne_of eb ep (fun z => nomatch z)
  refine wpAny_pure ⟨.ref s.heap.objs.size, _, d_write (ob := .dT [(kk, y)]) I3 (by rw [ep]; exact True.intro) hs ⟨o, hq⟩ ⟨by show 1 ≤ sizeLine; decide, hd, _, .cons ⟨rfl, ?_, ry⟩ .nil, o, es, ee, hq, h2, h3, h4, h5⟩, rfl, q2⟩
  rw [upd_ne npb]
  exact eb
end
/-- the pairs of the locked dict of tuple keys at d, each a new tuple -/
def ItiT (d : Addr) (o : Obj) (kvs : List (List Key × V)) : It :=
  ⟨fun i H => H d = some (.frz o (.dT kvs)) ∧ i < kvs.length, fun i H x H' => ∃ T k v q, kvs[i]? = some (k, v) ∧ x = .ref T ∧ H T = none ∧ H q = some (.tup (k.map kV)) ∧ H' = upd H T (.tup [.ref q, v]), fun i H => H d = some (.frz o (.dT kvs)) ∧ kvs.length ≤ i⟩
section
variable {P : Program} {w : World} {K : PySem.W.Frag} {d : Addr} {o : Obj}
theorem frzT2 {X : Cx} {pins : List (Addr × Obj)} {σ : L2.St} {H : Hp} {s : Shared} {kvs : List (List Key × V)} (I : Inv X pins σ H s) (h : H d = some (.frz o (.dT kvs))) :
    (d == sysModules) = false ∧ ∃ (es : Array DictEntry) (ep : Nat), o.data = .dict es ep ∧ DT.Raw s.heap d es ep ∧ es.size = kvs.length ∧ es.size ≤ sizeLine ∧
      ∀ (i : Nat) (k : List Key) (v : V), kvs[i]? = some (k, v) → ∃ (en : DictEntry) (q : Addr), es[i]? = some en ∧ en.key = .ref q ∧ H q = some (.tup (k.map kV)) ∧ RelV v en.val := by
  obtain ⟨hd, z, hs, xs, pr, o', es, ep, ho, hx, hdt, he, _⟩ := I.hok d _ h
  have hd' := hd
  rw [ho] at hd
  cases hd
  have l1 : es.size = xs.length := size_of_entries he
  have l2 : kvs.length = xs.length := Paired.length pr
  refine ⟨hs, es, ep, hdt, ⟨_, ho, hx, hdt⟩, by omega, by omega, fun i k v e => ?_⟩
  obtain ⟨b, hb, e1, e2, e3⟩ := paired_get pr e
  have q := entry_at he i
  rw [hb] at q
  exact ⟨_, b.2.1, q, rfl, e2, e3⟩
theorem turn_itemsT {es : Array DictEntry} {ep : Nat} {kvs : List (List Key × V)} {elts : List Expr} {kk : Nat} {tpos : Pos} (it : Addr) (hod : o.data = .dict es ep) (hsz : es.size = kvs.length) :
    Turn P w K (.Tuple elts kk tpos) (ItiT d o kvs) [it] it (fun i h => ∃ ok ov, IsItemIter h it d i es.size ep ok ov) where
  mem := by simp
  obj := fun i h st b hb => by
    have e : b = it := by simpa using hb
    subst e
    obtain ⟨ok, ov, e⟩ := st
    exact ⟨_, e, fun v z => nomatch z⟩
  keep := fun i h h' st k => let ⟨ok, ov, e⟩ := st; ⟨ok, ov, k it (by simp) _ e⟩
  item := by
    intro X hP hw hK hc i pins s σ H E I hf st hg
    subst hP hw hK
    obtain ⟨hd, hi⟩ := hg
    obtain ⟨hs, es', ep', hdt, hraw, hsz', _, ent⟩ := frzT2 I hd
    obtain ⟨rfl, rfl⟩ := dict_ep hod hdt
    obtain ⟨⟨k, v⟩, hkv⟩ : ∃ p, kvs[i]? = some p := ⟨kvs[i], List.getElem?_eq_getElem hi⟩
    obtain ⟨en, q, hen, hkey, hq, ru⟩ := ent i k v hkv
    obtain ⟨ok, ov, he⟩ := st
    have hlt : it < s.heap.objs.size := Heap.lt_size he
    have hie : i < es'.size := by omega
    have een : es'[i] = en := by
      rw [Array.getElem?_eq_getElem hie] at hen
      exact Option.some.inj hen
    refine DT.nextI he hraw hie fun h' ho hT hz hk => ?_
    rw [een] at ho hT
    refine ⟨_, rfl, wpAny_letOwnedTupleGo_items (s := { s with heap := h' }) ho fun h'' he' sb => ?_⟩
    have hT2 : h''.get? s.heap.objs.size = some { cls := .type "tuple", data := .seq #[en.key, en.val] } := (sb.2 _ (Nat.ne_of_gt hlt)).trans hT
    rw [hkey] at hT2
    have new : ObjOk X.prog X.w (upd H s.heap.objs.size (.tup [.ref q, v])) h'' s.heap.objs.size (.tup [.ref q, v]) :=
      ⟨by show 2 ≤ sizeLine; decide, [.ref q, en.val], .cons rfl (.cons ru .nil), ⟨_, hT2, rfl, _, rfl⟩⟩
    have I1 : Inv X pins σ (upd H s.heap.objs.size (.tup [.ref q, v])) { s with heap := h'' } :=
      I.turnedNew (t' := s.toks) (ch := [it]) (fun b ob hb e => (sb.2 b (by simpa using hb)).trans (hk b ob (by simpa using hb) e)) hf (Nat.le_refl _) new
    refine ⟨.ref s.heap.objs.size, _, I1, rfl, ⟨_, k, v, q, hkv, rfl, I.hok.fresh (Nat.le_refl _), hq, rfl⟩, ⟨en.key, en.val, ?_⟩, fun b hb => ?_⟩
    · exact he'
    · have e : b = it := by simpa using hb
      rw [e, upd_ne (Nat.ne_of_lt hlt)]
      exact (hf it (by simp)).1
  done := by
    intro X hP hw hK hc i pins s σ H E I hf st hg
    subst hP hw hK
    obtain ⟨hd, hi⟩ := hg
    obtain ⟨f0, f1, f2, f3, f4, f5⟩ := hf it (by simp)
    obtain ⟨hs, es', ep', hdt, hraw, hsz', _, ent⟩ := frzT2 I hd
    obtain ⟨rfl, rfl⟩ := dict_ep hod hdt
    obtain ⟨ok, ov, he⟩ := st
    exact DT.endI (I.ok.hd hc) he hraw (by omega) fun h' eb => ⟨rfl, I.turned (t' := s.toks) (fun b ob hb e => eb b ob hb e) f0 f1 f3 f4 f5⟩
  self := fun A i s Q E st h => let ⟨_, _, e⟩ := st; PySem.W.kcp_self e h
def iItemsT (td : TE) : TI := fun σ H R => td σ H fun x H1 => ∃ d o kvs, x = .ref d ∧ H1 d = some (.frz o (.dT kvs)) ∧ R (ItiT d o kvs) H1
theorem pi_itemsT {X : Cx} {e : Expr} {td : TE} {apos cpos : Pos} {elts : List Expr} {kk : Nat} {tpos : Pos} (he : PE X e td) (hbase : attributeBase e "items" X.env (eval e X.env) = eval e X.env := by rfl) (hline : (apos.endLine == cpos.line) = true := by rfl) :
    PI X (.Tuple elts kk tpos) (.Call (.Attribute e "items" apos) [] [] cpos) (iItemsT td) := by
  refine ⟨fun pins s σ H R I h => ?_⟩
  refine wpAny_Call_method (T := "dict") (id := "dict.items") hbase rfl hline F.plainAttrs_dict F.slot_dict_items F.type_dict_items (thn (he.run pins s σ H _ I h) fun u s1 ⟨x, H1, I1, rx, d, o, kvs, ex, hd, q⟩ => ?_)
  subst ex
  obtain rfl : u = Value.ref d := rx
  obtain ⟨hs, es, ep, hdt, hraw, hsz, hle, _⟩ := frzT2 I1 hd
  refine ⟨hraw.typeIs, fun b e => ?_, ?_⟩
  · cases e
    obtain ⟨ob, h1, h2, _⟩ := hraw
    exact ⟨ob, h1, h2.2.1⟩
  have I2 : Inv X pins σ H1 { s1 with heap := s1.heap.push { cls := .type "dict_items", data := .fields #[.ref d] } } := I1.kept (t' := s1.toks) fun b ob q => Heap.get?_push_of_some _ q
  have fin : wpAny (model X.prog X.w) X.A (pyIter (.ref s1.heap.objs.size)) (PIE X pins σ (.Tuple elts kk tpos) R) X.xe { s1 with heap := s1.heap.push { cls := .type "dict_items", data := .fields #[.ref d] } } := by
    refine DT.iterI (es := es) (ep := ep) (d := d) ⟨_, Heap.get?_push_size _ rfl, rfl, rfl⟩ (hraw.push _) (pi_one (tk := s1.toks) I2 _ (turn_itemsT _ hdt hsz) ⟨.none, .none, ?_⟩ q)
    exact Heap.get?_push_size _ rfl
  show wpAny _ _ (callWith cpos (.builtin "dict.items") [.ref d] [] []) _ X.xe s1
  exact method_meetsIn F.slot_dict_items F.entry_dict_items rfl (PySem.evalArgs_none ⟨rfl, hraw.typeIs, F.args_dict_items_1 _, _, DT.meetsItems (es := es) (ep := ep) hs, hraw, fin⟩)
end
end K72

set_option Elab.async false
set_option linter.all false
set_option maxRecDepth 100000
set_option maxHeartbeats 4000000
/-! is_touch, need_record, firsts_of, waits_for -/
namespace K72
open PySem PySem.Spec PyProof.Rows L2 TL
/-- a note between touches that are there -/
structure Qok (cs : List Nat) (q : List Nat) : Prop where
  ex : ∃ h k o m, q = [h, k, o, m] ∧ h ≠ o ∧ (∃ x, cs[h]? = some x ∧ k < x) ∧ ∃ y, cs[o]? = some y ∧ m < y
def q0 (q : List Nat) : Nat := q.getD 0 0
def q1 (q : List Nat) : Nat := q.getD 1 0
def q2 (q : List Nat) : Nat := q.getD 2 0
def q3 (q : List Nat) : Nat := q.getD 3 0
/-- the first touches of the notes that end at (o, m) -/
def fmap (N : List (List Nat)) (o m : Nat) : List (Nat × Nat) := (N.filter fun q => q2 q == o && q3 q == m).map fun q => (q0 q, q1 q)
def key2 (o m : Nat) : List Key := [.inl (o : Int), .inl (m : Int)]
theorem key2_inj {o m o' m' : Nat} (h : key2 o m = key2 o' m') : o = o' ∧ m = m' := by
  unfold key2 at h
  injection h with h1 h2
  injection h2 with h3 h4
  injection h1 with h1
  injection h3 with h3
  exact ⟨by omega, by omega⟩
theorem key2_kV (o m : Nat) : (key2 o m).map kV = [.int (o : Int), .int (m : Int)] := rfl
def FirstsAt (H : Hp) (f : Addr) (N : List (List Nat)) : Prop := ∃ kvs, H f = some (.dT kvs) ∧ (∀ o m, valV kvs (key2 o m) = none → fmap N o m = []) ∧
  ∀ o m v, valV kvs (key2 o m) = some v → ∃ l xs, v = .ref l ∧ H l = some (.lst xs) ∧ TupsAt H xs ((fmap N o m).map pairV)
theorem FirstsAt.same {H H' : Hp} {f : Addr} {N : List (List Nat)} (s : Same H H') (h : FirstsAt H f N) : FirstsAt H' f N := by
  obtain ⟨kvs, e, a, b⟩ := h
  refine ⟨kvs, s _ _ e, a, fun o m v h => ?_⟩
  obtain ⟨l, xs, e1, e2, e3⟩ := b o m v h
  exact ⟨l, xs, e1, s _ _ e2, e3.ts (TS.of s)⟩
/-- no touch that must come before hand h's next is still to come -/
def okB (N : List (List Nat)) (nw : List Nat) (h : Nat) : Bool := (fmap N h (nw.getD h 0)).all fun q => decide (q.2 < nw.getD q.1 0)
def NowAt (K : PySem.W.Frag) (H : Hp) (a : Addr) (nw : List Nat) : Prop := SqL K H a (natsV nw) ∨ SqT K H a (natsV nw)
def sp_is_touch : Sp := fun vs H Q _ => ∃ (c : Addr) (cs : List Nat) (h k x : Nat), vs = [.ref c, .int (h : Int), .int (k : Int)] ∧ H c = some (.lst (natsV cs)) ∧ cs[h]? = some x ∧ k < x ∧ Q (.bl true) H
def sp_need_record : Sp := fun vs H Q _ => ∃ (r : Addr) (cs : List Nat) (N : List (List Nat)), vs = [.ref r] ∧ RecAt H r cs N ∧ (∀ q ∈ N, Qok cs q) ∧ Q .non H
def sp_firsts_of : Sp := fun vs H Q _ => ∃ (r : Addr) (cs : List Nat) (N : List (List Nat)), vs = [.ref r] ∧ RecAt H r cs N ∧ (∀ q ∈ N, Qok cs q) ∧ N.length ≤ 1000 ∧ ∀ f H', FirstsAt H' f N → H f = none → Same H H' → Q (.ref f) H'
def sp_waits_for (K : PySem.W.Frag) : Sp := fun vs H Q _ => ∃ (f a : Addr) (N : List (List Nat)) (nw cs : List Nat) (h : Nat), vs = [.ref f, .ref a, .int (h : Int)] ∧ FirstsAt H f N ∧ NowAt K H a nw ∧ h < nw.length ∧ nw.length = cs.length ∧ (∀ q ∈ N, Qok cs q) ∧ N.length ≤ 1000 ∧
  ∀ l xs H', H' l = some (.lst xs) → xs.isEmpty = okB N nw h → H l = none → Same H H' → Q (.ref l) H'
theorem fmap_snoc (N : List (List Nat)) (q : List Nat) (o m : Nat) : fmap (N ++ [q]) o m = fmap N o m ++ if q2 q = o ∧ q3 q = m then [(q0 q, q1 q)] else [] := by
  unfold fmap
  rw [List.filter_append, List.map_append]
  congr 1
  by_cases h : q2 q = o ∧ q3 q = m
  · rw [if_pos h, List.filter_cons_of_pos (by simp [h.1, h.2])] <;> rfl
  · rw [if_neg h, List.filter_cons_of_neg (by simpa using h)] <;> rfl
section
variable {P : Program} {w : World} {K : PySem.W.Frag} {mg : Str → Option Value} {base : Heap} {f : Addr} {fd : FuncData}
theorem sc_is_touch : FnScope ["counts", "hand", "k"] ["counts", "hand", "k"] (defScope s_is_touch) := ⟨rfl, rfl, rfl, by decide +kernel, rfl, by decide +kernel, by decide +kernel⟩
theorem ok_is_touch (T : Txt K mg) (F : FnP K "is_touch" "is_touch" s_is_touch [] f fd) : FnOk P w K mg base CX0 1 f fd ["counts", "hand", "k"] sp_is_touch := by
  refine fok F sc_is_touch (fun vs H Q E h => ?_) (fun cdv A outer s H vs Q E hr h => ?_)
  · obtain ⟨_, _, _, _, _, rfl, _⟩ := h
    rfl
  · obtain ⟨c, cs, h, k, x, rfl, hc, hx, hk, q⟩ := h
    refine ⟨_, (pss_one (ps_ret (pe_and (pe_cmpR op_le pe_int (pv 1) (nomark _)) (pe_and (pe_cmpR op_lt (pv 1) (pe_callB call_len_seq (by rfl) T.n_len (by decide +kernel) (pa_cons (pv 0) pa_nil)) (nomark _)) (pe_and (pe_cmpR op_le pe_int (pv 2) (nomark _)) (pe_one (pe_cmpR op_lt (pv 2) (pe_ix ix_list (pv 0) (pv 1) (fun _ _ => rfl)) (nomark _)))))))), ?_⟩
    have hl := (List.getElem?_eq_some_iff.mp hx).1
    refine ⟨_, rfl, _, _, rfl, rfl, true, congrArg V.bl (decide_eq_true (by omega)), ?_⟩
    refine ⟨_, rfl, _, rfl, c, _, rfl, .inl (SqL.of hc), _, _, rfl, rfl, true, congrArg V.bl (decide_eq_true (by rw [natsV_len]; omega)), ?_⟩
    refine ⟨_, rfl, _, _, rfl, rfl, true, congrArg V.bl (decide_eq_true (by omega)), ?_⟩
    refine ⟨_, rfl, _, rfl, _, rfl, _, _, _, _, rfl, rfl, SqL.of hc, natsV_ix hx, _, _, rfl, rfl, ?_⟩
    have e : decide ((k : Int) < (x : Int)) = true := decide_eq_true (by omega)
    show Q (V.bl (decide ((k : Int) < (x : Int)))) H
    rw [e]
    exact q
theorem sc_need_record : FnScope ["record", "counts", "some", "hand", "k", "other", "m"] ["record"] (defScope s_need_record) := ⟨rfl, rfl, rfl, by decide +kernel, rfl, by decide +kernel, by decide +kernel⟩
theorem ok_need_record (F : FnP K "need_record" "need_record" s_need_record [] f fd) (h_is_touch : Def1 P w K mg base "is_touch" ["counts", "hand", "k"] [] 1 sp_is_touch) : FnOk P w K mg base CX0 2 f fd ["record"] sp_need_record := by
  refine fok F sc_need_record (fun vs H Q E h => ?_) (fun cdv A outer s H vs Q E hr h => ?_)
  · obtain ⟨_, _, _, rfl, _⟩ := h
    rfl
  · obtain ⟨r, cs, N, rfl, ⟨c, l, hrr, hc, xs, hl, hT⟩, hok, q⟩ := h
    refine ⟨_, (pss_cons (ps_asg (pv 0) (pg_tup (by rfl) (pgs_cons (pg_name (i := 1) sc_need_record.nd rfl (Or.inl rfl)) (pgs_cons (pg_name (i := 2) sc_need_record.nd rfl (Or.inl rfl)) pgs_nil))))
  (pss_one (ps_for PassesOwn.never rfl (pi_list (pv 2)) (pg_tup (by rfl) (pgs_cons (pg_name (i := 3) sc_need_record.nd rfl (Or.inl rfl)) (pgs_cons (pg_name (i := 4) sc_need_record.nd rfl (Or.inl rfl)) (pgs_cons (pg_name (i := 5) sc_need_record.nd rfl (Or.inl rfl)) (pgs_cons (pg_name (i := 6) sc_need_record.nd rfl (Or.inl rfl)) pgs_nil)))))
  (pss_one (ps_if (PW.pt (pw_or (pt_cmpR op_eq (pv 3) (pv 5) (nomark _)) (pw_or (pt_not (pt_val (pe_cl h_is_touch hr (pa_cons (pv 1) (pa_cons (pv 3) (pa_cons (pv 4) pa_nil)))))) (pw_or1 (pt_not (pt_val (pe_cl h_is_touch hr (pa_cons (pv 1) (pa_cons (pv 5) (pa_cons (pv 6) pa_nil))))))))))
  (pss_one ps_never)
  pss_nil))))), ?_⟩
    refine ⟨_, rfl, r, _, rfl, SqT.of hrr, rfl, _, _, rfl, _, _, rfl, rfl, ?_⟩
    refine ⟨_, rfl, l, rfl, ⟨_, SqL.of hl⟩, for_it (walk_list (xs := xs)) (fun i σ H' => ∃ v3 v4 v5 v6 : Option V, σ = [some (.ref r), some (.ref c), some (.ref l), v3, v4, v5, v6] ∧ H' = H) ⟨none, none, none, none, rfl, rfl⟩ (fun i σ H' _ ⟨_, _, _, _, _, e⟩ => by rw [e]; exact SqL.of hl) ?_ ?_⟩
    · rintro i y σ H1 H2 hi ⟨v3, v4, v5, v6, rfl, rfl⟩ ⟨rfl, hy⟩
      obtain ⟨qd, eqd⟩ : ∃ qd, N[i]? = some qd := ⟨_, List.getElem?_eq_getElem (by have := hT.1; rw [List.length_map] at this; omega)⟩
      obtain ⟨t, et, ht⟩ := hT.at (x := natsV qd) (by rw [List.getElem?_map, eqd] <;> rfl)
      rw [hy] at et
      cases et
      obtain ⟨h, k, o, m, rfl, hno, ⟨x1, hx1, hk⟩, x2, hx2, hm⟩ := (hok qd (List.mem_of_getElem? eqd)).ex
      refine ⟨t, _, rfl, SqT.of ht, rfl, _, _, rfl, _, _, rfl, _, _, rfl, _, _, rfl, rfl, ?_⟩
      refine ⟨_, rfl, _, rfl, rfl, _, rfl, iteN (fun e => hno (by have := V.int.inj e; omega)) ?_⟩
      refine ⟨_, rfl, _, rfl, _, rfl, c, cs, h, k, x1, rfl, hc, hx1, hk, _, rfl, ?_⟩
      refine ⟨_, rfl, _, rfl, _, rfl, c, cs, o, m, x2, rfl, hc, hx2, hm, _, rfl, ?_⟩
      exact ⟨_, _, _, _, rfl, rfl⟩
    · rintro σ H1 ⟨v3, v4, v5, v6, rfl, rfl⟩
      exact q
theorem sc_firsts_of : FnScope ["record", "found", "hand", "k", "other", "m"] ["record"] (defScope s_firsts_of) := ⟨rfl, rfl, rfl, by decide +kernel, rfl, by decide +kernel, by decide +kernel⟩
theorem ok_firsts_of (F : FnP K "firsts_of" "firsts_of" s_firsts_of [] f fd) : FnOk P w K mg base CX0 1 f fd ["record"] sp_firsts_of := by
  refine fok F sc_firsts_of (fun vs H Q E h => ?_) (fun cdv A outer s H vs Q E hr h => ?_)
  · obtain ⟨_, _, _, rfl, _⟩ := h
    rfl
  · obtain ⟨r, cs, N, rfl, ⟨c, l, hrr, hc, xs, hl, hT⟩, hok, hN, q⟩ := h
    have hu : (A.deeper (envOfC "firsts_of" (defScope s_firsts_of) s.heap.objs.size f cdv)).units + 1 < cLine := by have := hr.un; omega
    refine ⟨_, (pss_cons (ps_set (i := 1) sc_firsts_of.nd rfl (Or.inl rfl) pe_dnewT)
  (pss_cons (ps_for PassesOwn.never rfl (pi_list (pe_ix ix_tup (pv 0) pe_int (fun _ _ => rfl))) (pg_tup (by rfl) (pgs_cons (pg_name (i := 2) sc_firsts_of.nd rfl (Or.inl rfl)) (pgs_cons (pg_name (i := 3) sc_firsts_of.nd rfl (Or.inl rfl)) (pgs_cons (pg_name (i := 4) sc_firsts_of.nd rfl (Or.inl rfl)) (pgs_cons (pg_name (i := 5) sc_firsts_of.nd rfl (Or.inl rfl)) pgs_nil)))))
  (pss_one (ps_expr (pe_bm PySem.F.plainAttrs_list PySem.F.slot_list_append PySem.F.type_list_append mt_append (pe_bm PySem.F.plainAttrs_dict PySem.F.slot_dict_setdefault PySem.F.type_dict_setdefault (mt_setdT hu) (pv 1) (pa_cons (pe_tup (pa_cons (pv 4) (pa_cons (pv 5) pa_nil))) (pa_cons (pe_lst pa_nil) pa_nil))) (pa_cons (pe_tup (pa_cons (pv 2) (pa_cons (pv 3) pa_nil))) pa_nil)))))
  (pss_one (ps_ret (pv 1))))), ?_⟩
    have hxl : xs.length = N.length := by rw [hT.1, List.length_map]
    refine fun fo hfo => ?_
    have S1 := Same.new (o := .dT []) hfo
    refine ⟨_, rfl, _, _, _, _, rfl, rfl, SqT.of (S1 _ _ hrr), rfl, l, rfl, ⟨_, SqL.of (S1 _ _ hl)⟩, for_it (walk_list (xs := xs)) (fun i σ H' => ∃ (v2 v3 v4 v5 : Option V) (kvs : List (List Key × V)), σ = [some (.ref r), some (.ref fo), v2, v3, v4, v5] ∧ Same H H' ∧ H' fo = some (.dT kvs) ∧ kvs.length ≤ i ∧
        (∀ o m, valV kvs (key2 o m) = none → fmap (N.take i) o m = []) ∧
        (∀ o m v, valV kvs (key2 o m) = some v → ∃ l xs, v = .ref l ∧ H l = none ∧ H' l = some (.lst xs) ∧ TupsAt H' xs ((fmap (N.take i) o m).map pairV)) ∧
        ∀ o m o' m' l, valV kvs (key2 o m) = some (.ref l) → valV kvs (key2 o' m') = some (.ref l) → o = o' ∧ m = m')
      ⟨none, none, none, none, [], rfl, S1, upd_same, Nat.zero_le _, (fun o m _ => rfl), (fun o m v h => (by cases h)), (fun o m o' m' l h => (by cases h))⟩ (fun i σ H' _ ⟨_, _, _, _, _, _, S, _⟩ => SqL.of (S _ _ hl)) ?_ ?_⟩
    · rintro i y σ H1 H2 hi ⟨v2, v3, v4, v5, kvs, rfl, S, hfo1, hkl, hnone, hsome, hinj⟩ ⟨rfl, hy⟩
      obtain ⟨qd, eqd⟩ : ∃ qd, N[i]? = some qd := ⟨_, List.getElem?_eq_getElem (by omega)⟩
      obtain ⟨t, et, ht⟩ := hT.at (x := natsV qd) (by rw [List.getElem?_map, eqd] <;> rfl)
      rw [hy] at et
      cases et
      obtain ⟨h, k, o, m, rfl, hno, _⟩ := (hok qd (List.mem_of_getElem? eqd)).ex
      have etk : N.take (i + 1) = N.take i ++ [[h, k, o, m]] := by rw [List.take_succ, eqd] <;> rfl
      have efm : ∀ o' m', fmap (N.take (i + 1)) o' m' = fmap (N.take i) o' m' ++ if o = o' ∧ m = m' then [(h, k)] else [] := fun o' m' => by rw [etk, fmap_snoc] <;> rfl
      refine ⟨t, _, rfl, SqT.of (S _ _ ht), rfl, _, _, rfl, _, _, rfl, _, _, rfl, _, _, rfl, rfl, ?_⟩
      refine ⟨_, rfl, .inr (.inr (.inl ⟨rfl, .inr ⟨_, hfo1⟩⟩)), _, rfl, _, rfl, by show 2 ≤ sizeLine; decide, fun b hb => ?_⟩
      refine ⟨by show 0 ≤ sizeLine; decide, fun e he => ?_⟩
      have Sb := Same.new (o := .tup [.int (o : Int), .int (m : Int)]) hb
      have Se := Same.new (o := .lst []) he
      have S2 := S.trans (Sb.trans Se)
      have hfo2 := Se _ _ (Sb _ _ hfo1)
      have hb2 : (upd (upd H2 b (.tup [.int (o : Int), .int (m : Int)])) e (.lst [])) b = some (.tup ((key2 o m).map kV)) := Se _ _ upd_same
      have he2 : (upd (upd H2 b (.tup [.int (o : Int), .int (m : Int)])) e (.lst [])) e = some (.lst []) := upd_same
      have feH : H e = none := (S.trans Sb).free he
      have nef : e ≠ fo := (ne_of_none (Sb _ _ hfo1) he).symm
      have hsome2 : ∀ o' m' v, valV kvs (key2 o' m') = some v → ∃ l xs, v = .ref l ∧ H l = none ∧ l ≠ e ∧ l ≠ fo ∧ (upd (upd H2 b (.tup [.int (o : Int), .int (m : Int)])) e (.lst [])) l = some (.lst xs) ∧ TupsAt (upd (upd H2 b (.tup [.int (o : Int), .int (m : Int)])) e (.lst [])) xs ((fmap (N.take i) o' m').map pairV) := fun o' m' v hv => by
        obtain ⟨l, ys, e1, e2, e3, e4⟩ := hsome o' m' v hv
        exact ⟨l, ys, e1, e2, ne_of_none (Sb _ _ e3) he, ne_of e3 hfo1 (fun z => by cases z), Se _ _ (Sb _ _ e3), (e4.ts (TS.of Sb)).ts (TS.of Se)⟩
      generalize upd (upd H2 b (.tup [.int (o : Int), .int (m : Int)])) e (.lst []) = H4 at S2 hfo2 hb2 he2 hsome2
      refine ⟨fo, kvs, key2 o m, b, _, rfl, rfl, hfo2, hb2, Nat.lt_of_le_of_lt (by omega : _ ≤ 1000) (by decide), fun v hv => ?there, fun hn => ?new⟩
      case' there =>
        obtain ⟨l1, ys, rfl, fl1, nl1e, nl1f, hl5, ht5⟩ := hsome2 o m v hv
        obtain ⟨H5, eH5⟩ : ∃ H5, H5 = H4 := ⟨_, rfl⟩
        have hfo5 : ∃ kvs', H5 fo = some (.dT kvs') ∧ kvs'.length ≤ i + 1 ∧ valV kvs' (key2 o m) = some (.ref l1) ∧ (∀ o' m', valV kvs' (key2 o' m') = none → fmap (N.take i) o' m' = [] ∧ ¬ (o = o' ∧ m = m')) ∧
            (∀ o' m' v, valV kvs' (key2 o' m') = some v → ∃ l xs, v = .ref l ∧ H l = none ∧ l ≠ fo ∧ H5 l = some (.lst xs) ∧ TupsAt H5 xs ((fmap (N.take i) o' m').map pairV)) ∧
            ∀ o m o' m' l, valV kvs' (key2 o m) = some (.ref l) → valV kvs' (key2 o' m') = some (.ref l) → o = o' ∧ m = m' := by
          rw [eH5]
          refine ⟨kvs, hfo2, by omega, hv, fun o' m' h => ⟨hnone o' m' h, fun z => by rw [← z.1, ← z.2, hv] at h; cases h⟩, fun o' m' v h => ?_, hinj⟩
          obtain ⟨l, zs, e1, e2, e3, e4, e5, e6⟩ := hsome2 o' m' v h
          exact ⟨l, zs, e1, e2, e4, e5, e6⟩
        have S5 : Same H H5 := by rw [eH5]; exact S2
        rw [← eH5] at hl5 ht5 ⊢
      case' new =>
        obtain ⟨l1, el1⟩ : ∃ l1, l1 = e := ⟨_, rfl⟩
        obtain ⟨ys, eys⟩ : ∃ ys : List V, ys = [] := ⟨_, rfl⟩
        have fl1 : H l1 = none := by rw [el1]; exact feH
        have nl1f : l1 ≠ fo := by rw [el1]; exact nef
        obtain ⟨H5, eH5⟩ : ∃ H5, H5 = upd H4 fo (.dT (putK kvs (key2 o m) (.ref e))) := ⟨_, rfl⟩
        have tsf : TS H4 H5 := by rw [eH5]; exact TS.upd hfo2 (fun xs e => by cases e)
        have hl5 : H5 l1 = some (.lst ys) := by rw [eH5, upd_ne nl1f, el1, eys]; exact he2
        have ht5 : TupsAt H5 ys ((fmap (N.take i) o m).map pairV) := by rw [hnone o m hn, eys]; exact TupsAt.nil _
        have hvp := fun j => valV_put kvs (key2 o m) j (V.ref e)
        have hfo5 : ∃ kvs', H5 fo = some (.dT kvs') ∧ kvs'.length ≤ i + 1 ∧ valV kvs' (key2 o m) = some (.ref l1) ∧ (∀ o' m', valV kvs' (key2 o' m') = none → fmap (N.take i) o' m' = [] ∧ ¬ (o = o' ∧ m = m')) ∧
            (∀ o' m' v, valV kvs' (key2 o' m') = some v → ∃ l xs, v = .ref l ∧ H l = none ∧ l ≠ fo ∧ H5 l = some (.lst xs) ∧ TupsAt H5 xs ((fmap (N.take i) o' m').map pairV)) ∧
            ∀ o m o' m' l, valV kvs' (key2 o m) = some (.ref l) → valV kvs' (key2 o' m') = some (.ref l) → o = o' ∧ m = m' := by
          refine ⟨putK kvs (key2 o m) (.ref e), by rw [eH5, upd_same], by have := length_putK kvs (key2 o m) (V.ref e); omega, by rw [hvp, if_pos rfl, el1], fun o' m' h => ?_, fun o' m' v h => ?_, fun o1 m1 o2 m2 l h1 h2 => ?_⟩
          · rw [hvp] at h
            by_cases z : key2 o' m' = key2 o m
            · rw [if_pos z] at h; cases h
            · rw [if_neg z] at h
              exact ⟨hnone o' m' h, fun y => z (by rw [y.1, y.2])⟩
          · rw [hvp] at h
            by_cases z : key2 o' m' = key2 o m
            · rw [if_pos z] at h
              cases h
              obtain ⟨z1, z2⟩ := key2_inj z
              rw [z1, z2]
              rw [el1] at hl5 fl1 nl1f
              exact ⟨e, ys, rfl, fl1, nl1f, hl5, ht5⟩
            · rw [if_neg z] at h
              obtain ⟨l, zs, e1, e2, e3, e4, e5, e6⟩ := hsome2 o' m' v h
              exact ⟨l, zs, e1, e2, e4, by rw [eH5, upd_ne e4]; exact e5, e6.ts tsf⟩
          · rw [hvp] at h1 h2
            by_cases z1 : key2 o1 m1 = key2 o m
            · by_cases z2 : key2 o2 m2 = key2 o m
              · exact key2_inj (z1.trans z2.symm)
              · rw [if_pos z1] at h1
                rw [if_neg z2] at h2
                cases h1
                obtain ⟨l', zs, e1, e2, e3, _⟩ := hsome2 o2 m2 _ h2
                cases e1
                exact absurd rfl e3
            · by_cases z2 : key2 o2 m2 = key2 o m
              · rw [if_neg z1] at h1
                rw [if_pos z2] at h2
                cases h2
                obtain ⟨l', zs, e1, e2, e3, _⟩ := hsome2 o1 m1 _ h1
                cases e1
                exact absurd rfl e3
              · rw [if_neg z1] at h1
                rw [if_neg z2] at h2
                exact hinj _ _ _ _ _ h1 h2
        have S5 : Same H H5 := by rw [eH5]; exact Same.mut S2 hfo
        rw [← eH5, ← el1]
      all_goals
        obtain ⟨kvs', g1, g2, g3, g4, g5, g6⟩ := hfo5
        refine ⟨.inl ⟨rfl, _, SqL.of hl5⟩, _, rfl, _, rfl, by show 2 ≤ sizeLine; decide, fun u hu => ?_⟩
        have Su := Same.new (o := .tup [.int (h : Int), .int (k : Int)]) hu
        have hl6 := Su _ _ hl5
        have hyl : ys.length ≤ 1000 := by
          rw [ht5.1, List.length_map]
          unfold fmap
          rw [List.length_map]
          exact Nat.le_trans (List.length_filter_le _ _) (by rw [List.length_take]; omega)
        refine ⟨l1, ys, _, rfl, rfl, hl6, Nat.lt_of_le_of_lt hyl (by decide), ?_⟩
        have tsl := TS.upd (u := .lst (ys ++ [.ref u])) hl6 (fun xs e => by cases e)
        refine ⟨_, _, _, _, kvs', rfl, Same.mut (S5.trans Su) fl1, (upd_ne nl1f.symm).trans (Su _ _ g1), g2, fun o' m' hv => ?_, fun o' m' v hv => ?_, g6⟩
        · obtain ⟨x1, x2⟩ := g4 o' m' hv
          rw [efm, x1, if_neg x2]
          rfl
        · rw [efm]
          by_cases z : o = o' ∧ m = m'
          · rw [if_pos z]
            obtain ⟨rfl, rfl⟩ := z
            rw [g3] at hv
            cases hv
            refine ⟨l1, _, rfl, fl1, upd_same, ?_⟩
            rw [List.map_append]
            exact ((ht5.ts (TS.of Su)).ts tsl).snoc (tsl _ _ upd_same)
          · rw [if_neg z, List.append_nil]
            obtain ⟨l, zs, e1, e2, e3, e4, e5⟩ := g5 o' m' v hv
            have nll : l ≠ l1 := fun y => z (g6 _ _ _ _ l1 g3 (by rw [hv, e1, y]))
            exact ⟨l, zs, e1, e2, (upd_ne nll).trans (Su _ _ e4), (e5.ts (TS.of Su)).ts tsl⟩
    · rintro σ H1 ⟨v2, v3, v4, v5, kvs, rfl, S, hfo1, hkl, hnone, hsome, hinj⟩
      rw [hxl, List.take_length] at hnone hsome
      refine ⟨_, rfl, q fo H1 ⟨kvs, hfo1, hnone, fun o m v hv => ?_⟩ hfo S⟩
      obtain ⟨l, ys, e1, e2, e3, e4⟩ := hsome o m v hv
      exact ⟨l, ys, e1, e3, e4⟩
end
end K72

set_option Elab.async false
set_option linter.all false
set_option maxRecDepth 100000
set_option maxHeartbeats 4000000
/-! waits_for, ready -/
namespace K72
open PySem PySem.Spec PyProof.Rows L2 TL
def rIxLT (K : PySem.W.Frag) : R2 := fun x y H Q => rIxL K x y H Q ∨ rIxT K x y H Q
theorem now_ix {K : PySem.W.Frag} {H : Hp} {a : Addr} {nw : List Nat} {h k : Nat} {Q : VK} (hn : NowAt K H a nw) (e : nw[h]? = some k) (q : Q (.int (k : Int)) H) : rIxLT K (.ref a) (.int (h : Int)) H Q := by
  rcases hn with hn | hn
  · exact .inl ⟨_, _, _, _, rfl, rfl, hn, natsV_ix e, q⟩
  · exact .inr ⟨_, _, _, _, rfl, rfl, hn, natsV_ix e, q⟩
theorem NowAt.same {K : PySem.W.Frag} {H H' : Hp} {a : Addr} {nw : List Nat} (s : Same H H') (h : NowAt K H a nw) : NowAt K H' a nw := h.imp (fun h => s.seq h) fun h => Same.tup s h
theorem getD_at {l : List Nat} {i : Nat} (h : i < l.length) : l[i]? = some (l.getD i 0) := by
  rw [List.getD_eq_getElem?_getD, List.getElem?_eq_getElem h]
  rfl
theorem filter_one (p : Nat → Bool) (i : Nat) : [i].filter p = if p i = true then [i] else [] := by cases h : p i <;> simp [h]
def readyL (cs : List Nat) (N : List (List Nat)) (nw : List Nat) : List Nat := ((List.range cs.length).filter fun h => decide (nw.getD h 0 < cs.getD h 0)).filter fun h => okB N nw h
def sp_ready (K : PySem.W.Frag) : Sp := fun vs H Q _ => ∃ (c f a : Addr) (N : List (List Nat)) (nw cs : List Nat), vs = [.ref c, .ref f, .ref a] ∧ H c = some (.lst (natsV cs)) ∧ FirstsAt H f N ∧ NowAt K H a nw ∧ nw.length = cs.length ∧ (∀ q ∈ N, Qok cs q) ∧ N.length ≤ 1000 ∧ cs.length ≤ 8 ∧
  ∀ l H', H' l = some (.lst (natsV (readyL cs N nw))) → H l = none → Same H H' → Q (.ref l) H'
section
variable {P : Program} {w : World} {K : PySem.W.Frag} {mg : Str → Option Value} {base : Heap} {f : Addr} {fd : FuncData}
theorem sc_waits_for : FnScope ["firsts", "now", "hand", "there", "other", "k"] ["firsts", "now", "hand"] (defScope s_waits_for) := ⟨rfl, rfl, rfl, by decide +kernel, rfl, by decide +kernel, by decide +kernel⟩
theorem ok_waits_for (F : FnP K "waits_for" "waits_for" s_waits_for [] f fd) : FnOk P w K mg base CX0 1 f fd ["firsts", "now", "hand"] (sp_waits_for K) := by
  refine fok F sc_waits_for (fun vs H Q E h => ?_) (fun cdv A outer s H vs Q E hr h => ?_)
  · obtain ⟨_, _, _, _, _, _, rfl, _⟩ := h
    rfl
  · obtain ⟨fo, a, N, nw, cs, h, rfl, hF, hnow, hh, hlen, hok, hN, q⟩ := h
    have hu : (A.deeper (envOfC "waits_for" (defScope s_waits_for) s.heap.objs.size f cdv)).units + 1 < cLine := by have := hr.un; omega
    refine ⟨_, (pss_cons (ps_set (i := 3) sc_waits_for.nd rfl (Or.inl rfl) (pe_dget2 hu (pv 0) (pe_tup (pa_cons (pv 2) (pa_cons (pe_ix (ix_list.or ix_tup) (pv 1) (pv 2) (fun _ _ => rfl)) pa_nil))) (pe_lst pa_nil) ⟨rfl, rfl, rfl, rfl⟩))
  (pss_one (ps_ret (pe_lc (own := [("other", 4), ("k", 5)]) (g := gTup K 2 (gCons (gName 4) (gCons (gName 5) gNil))) (tt := tTest (tOp (rI0 fun i j => .bl (decide (j ≤ i))) (tVar 5) (tOp (rIxLT K) (tVar 1) (tVar 4)))) (te := tTup (tCons (tVar 4) (tCons (tVar 5) tNil))) rfl sc_waits_for.nd (pi_list (pv 3)) (blkOk_by (own := [("other", 4), ("k", 5)]) (N := ["firsts", "now", "hand", "there", "other", "k"]) (sc := defScope s_waits_for) (by decide +kernel)) (fun _ _ _ _ _ => (pg_tup (by rfl) (pgs_cons (pg_name (i := 4) sc_waits_for.nd rfl (Or.inl rfl)) (pgs_cons (pg_name (i := 5) sc_waits_for.nd rfl (Or.inl rfl)) pgs_nil)))) (fun _ _ _ _ _ => pts_one (pt_cmpR op_ge (pv 5) (pe_ix (ix_list.or ix_tup) (pv 1) (pv 4) (fun _ _ => rfl)) (nomark _))) (fun _ _ _ _ _ => (pe_tup (pa_cons (pv 4) (pa_cons (pv 5) pa_nil)))))))), ?_⟩
    have hF0 := hF
    obtain ⟨kvs, hfo, hnone, hsome⟩ := hF0
    have eh := getD_at hh
    refine ⟨_, rfl, fo, rfl, .inr ⟨kvs, .inl hfo⟩, _, rfl, _, rfl, _, rfl, now_ix hnow eh ?_⟩
    refine ⟨by show 2 ≤ sizeLine; decide, fun b hb => ⟨by show 0 ≤ sizeLine; decide, fun e he => ?_⟩⟩
    have Sb := Same.new (o := .tup [.int (h : Int), .int ((nw.getD h 0 : Nat) : Int)]) hb
    have Se := Same.new (o := .lst []) he
    have S1 := Sb.trans Se
    have hb1 : (upd (upd H b (.tup [.int (h : Int), .int ((nw.getD h 0 : Nat) : Int)])) e (.lst [])) b = some (.tup ((key2 h (nw.getD h 0)).map kV)) := Se _ _ upd_same
    have he1 : (upd (upd H b (.tup [.int (h : Int), .int ((nw.getD h 0 : Nat) : Int)])) e (.lst [])) e = some (.lst []) := upd_same
    have hfo1 := S1 _ _ hfo
    generalize upd (upd H b (.tup [.int (h : Int), .int ((nw.getD h 0 : Nat) : Int)])) e (.lst []) = H1 at S1 hb1 he1 hfo1
    have hnow1 := hnow.same S1
    refine ⟨valV kvs (key2 h (nw.getD h 0)), DGet.t hfo1 hb1, ?_⟩
    obtain ⟨l, xs, el, hl, hT⟩ : ∃ l xs, (valV kvs (key2 h (nw.getD h 0))).getD (.ref e) = .ref l ∧ H1 l = some (.lst xs) ∧ TupsAt H1 xs ((fmap N h (nw.getD h 0)).map pairV) := by
      cases ev : valV kvs (key2 h (nw.getD h 0)) with
      | none =>
        refine ⟨e, [], rfl, he1, ?_⟩
        rw [hnone _ _ ev]
        exact TupsAt.nil _
      | some v =>
        obtain ⟨l, xs, rfl, h2, h3⟩ := hsome _ _ v ev
        exact ⟨l, xs, rfl, S1 _ _ h2, h3.ts (TS.of S1)⟩
    simp only [el]
    refine ⟨_, rfl, l, rfl, ⟨_, SqL.of hl⟩, fun D hD => ?_⟩
    have fD := S1.free hD
    have hxl : xs.length = (fmap N h (nw.getD h 0)).length := by rw [hT.1, List.length_map]
    have hfl : (fmap N h (nw.getD h 0)).length ≤ 1000 := by
      unfold fmap
      rw [List.length_map]
      exact Nat.le_trans (List.length_filter_le _ _) hN
    refine lc_it (walk_list (xs := xs)) (fun i H' => ∃ zs, H' D = some (.lst zs) ∧ Same H1 H' ∧ zs.length ≤ i ∧ zs.isEmpty = ((fmap N h (nw.getD h 0)).take i).all fun q => decide (q.2 < nw.getD q.1 0)) ⟨[], upd_same, Same.new hD, Nat.le_refl _, rfl⟩ (fun i H' _ ⟨zs, _, S, _⟩ => SqL.of (S _ _ hl)) ?_ ?_
    · rintro i y H2 H3 hi ⟨zs, hD2, S2, hzl, hze⟩ ⟨rfl, hy⟩
      obtain ⟨⟨o, k⟩, eok⟩ : ∃ ok, (fmap N h (nw.getD h 0))[i]? = some ok := ⟨_, List.getElem?_eq_getElem (by omega)⟩
      obtain ⟨t, et, ht⟩ := hT.at (x := pairV (o, k)) (by rw [List.getElem?_map, eok] <;> rfl)
      rw [hy] at et
      cases et
      have ho : o < nw.length := by
        have hm := List.mem_of_getElem? eok
        unfold fmap at hm
        obtain ⟨q', hq', eq'⟩ := List.mem_map.mp hm
        have hq2 := List.mem_filter.mp hq'
        obtain ⟨h', k', o', m', rfl, _, ⟨x, hx, _⟩, _⟩ := (hok q' hq2.1).ex
        have e1 : h' = o := congrArg Prod.fst eq'
        rw [hlen, ← e1]
        exact (List.getElem?_eq_some_iff.mp hx).1
      have etk : (fmap N h (nw.getD h 0)).take (i + 1) = (fmap N h (nw.getD h 0)).take i ++ [(o, k)] := by rw [List.take_succ, eok] <;> rfl
      refine ⟨t, _, rfl, SqT.of (S2 _ _ ht), rfl, _, _, rfl, _, _, rfl, rfl, rfl, ?_⟩
      refine ⟨_, rfl, _, rfl, _, rfl, now_ix (hnow1.same S2) (getD_at ho) ⟨_, _, rfl, rfl, _, rfl, ?_⟩⟩
      by_cases hk : nw.getD o 0 ≤ k
      · have hk' : ((nw.getD o 0 : Nat) : Int) ≤ (k : Int) := by omega
        refine iteY hk' ?_
        refine ⟨_, rfl, _, rfl, by show 2 ≤ sizeLine; decide, fun z hz => ?_⟩
        have Sz := Same.new (o := .tup [.int (o : Int), .int (k : Int)]) hz
        refine ⟨zs, Sz _ _ hD2, Nat.lt_of_le_of_lt (by omega : _ ≤ 1000) (by decide), _, upd_same, Same.mut (S2.trans Sz) hD, by rw [List.length_append]; exact Nat.succ_le_succ hzl, ?_⟩
        rw [etk, List.all_append]
        have e1 : decide (k < nw.getD o 0) = false := decide_eq_false (by omega)
        simp only [List.all_cons, List.all_nil, e1]
        simp
      · have hk' : ¬ ((nw.getD o 0 : Nat) : Int) ≤ (k : Int) := by omega
        refine iteN hk' ?_
        refine ⟨zs, hD2, S2, by omega, ?_⟩
        rw [etk, List.all_append, hze]
        have e1 : decide (k < nw.getD o 0) = true := decide_eq_true (by omega)
        simp only [List.all_cons, List.all_nil, e1]
        simp
    · rintro H2 ⟨zs, hD2, S2, hzl, hze⟩
      rw [hxl, List.take_length] at hze
      exact q D zs H2 hD2 hze fD (S1.trans S2)
theorem sc_ready : FnScope ["counts", "firsts", "now", "hands", "hand"] ["counts", "firsts", "now"] (defScope s_ready) := ⟨rfl, rfl, rfl, by decide +kernel, rfl, by decide +kernel, by decide +kernel⟩
theorem ok_ready (T : Txt K mg) (F : FnP K "ready" "ready" s_ready [] f fd) (h_waits_for : Def1 P w K mg base "waits_for" ["firsts", "now", "hand"] [] 1 (sp_waits_for K)) : FnOk P w K mg base CX0 2 f fd ["counts", "firsts", "now"] (sp_ready K) := by
  refine fok F sc_ready (fun vs H Q E h => ?_) (fun cdv A outer s H vs Q E hr h => ?_)
  · obtain ⟨_, _, _, _, _, _, rfl, _⟩ := h
    rfl
  · obtain ⟨c, fo, a, N, nw, cs, rfl, hc, hF, hnow, hlen, hok, hN, h8, q⟩ := h
    have hu : (A.deeper (envOfC "ready" (defScope s_ready) s.heap.objs.size f cdv)).units < cLine := by have := hr.un; omega
    refine ⟨_, (pss_cons (ps_setLc (i := 3) (own := [("hand", 4)]) (g := gName 4) (tt := tTest (tOp (rI0 fun i j => .bl (decide (i < j))) (tOp (rIxLT K) (tVar 2) (tVar 4)) (tOp (rIxL K) (tVar 0) (tVar 4)))) (te := tVar 4) rfl sc_ready.nd rfl rfl (sw_true rfl rfl rfl (by decide +kernel)) (pi_range1 rfl T.n_range (pa_cons (pe_callB call_len_seq (by rfl) T.n_len (by decide +kernel) (pa_cons (pv 0) pa_nil)) pa_nil)) (blkOk_by (own := [("hand", 4)]) (N := ["counts", "firsts", "now", "hands", "hand"]) (sc := defScope s_ready) (by decide +kernel)) (fun _ _ _ _ _ => (pg_name (i := 4) sc_ready.nd rfl (Or.inl rfl))) (fun _ _ _ _ _ => pts_one (pt_cmpR op_lt (pe_ix (ix_list.or ix_tup) (pv 2) (pv 4) (fun _ _ => rfl)) (pe_ix ix_list (pv 0) (pv 4) (fun _ _ => rfl)) (nomark _))) (fun _ _ _ _ _ => (pv 4)))
  (pss_one (ps_ret (pe_lc (own := [("hand", 4)]) (g := gName 4) (tt := tTest (tOp (rEqNil K) (tCall (sp_waits_for K) [] E0 (tCons (tVar 1) (tCons (tVar 2) (tCons (tVar 4) tNil)))) (tLst tNil))) (te := tVar 4) rfl sc_ready.nd (pi_list (pv 3)) (blkOk_by (own := [("hand", 4)]) (N := ["counts", "firsts", "now", "hands", "hand"]) (sc := defScope s_ready) (by decide +kernel)) (fun _ _ _ _ _ => (pg_name (i := 4) sc_ready.nd rfl (Or.inl rfl))) (fun _ _ _ _ _ => pts_one (pt_cmpR (op_eqNil hu) (pe_cl h_waits_for hr (pa_cons (pv 1) (pa_cons (pv 2) (pa_cons (pv 4) pa_nil)))) (pe_lst pa_nil) (nomark _))) (fun _ _ _ _ _ => (pv 4)))))), ?_⟩
    refine ⟨_, rfl, c, _, rfl, .inl (SqL.of hc), ((cs.length : Nat) : Int), by rw [natsV_len], by omega, by omega, fun D hD => ?_⟩
    have ncD : c ≠ D := ne_of_none hc hD
    refine lc_it (walk_range (n := cs.length)) (fun i H' => Same H H' ∧ H' D = some (.lst (natsV ((List.range i).filter fun h => decide (nw.getD h 0 < cs.getD h 0))))) ⟨Same.new hD, upd_same⟩ (fun _ _ _ _ => trivial) ?_ ?_
    · rintro i y H1 H2 hi ⟨S1, hD1⟩ ⟨rfl, rfl⟩
      simp only [Int.zero_add]
      refine ⟨rfl, _, rfl, _, rfl, now_ix (hnow.same S1) (getD_at (by omega)) ⟨_, rfl, _, rfl, _, _, _, _, rfl, rfl, SqL.of (S1 _ _ hc), natsV_ix (getD_at hi), _, _, rfl, rfl, _, rfl, ?_⟩⟩
      have er : (List.range (i + 1)).filter (fun h => decide (nw.getD h 0 < cs.getD h 0)) = (List.range i).filter (fun h => decide (nw.getD h 0 < cs.getD h 0)) ++ if nw.getD i 0 < cs.getD i 0 then [i] else [] := by
        rw [List.range_succ, List.filter_append]
        congr 1
        by_cases z : nw.getD i 0 < cs.getD i 0
        · rw [if_pos z, filter_one, if_pos (decide_eq_true z)]
        · rw [if_neg z, filter_one, if_neg (fun k => z (of_decide_eq_true k))]
      rw [er]
      by_cases z : nw.getD i 0 < cs.getD i 0
      · have z' : ((nw.getD i 0 : Nat) : Int) < ((cs.getD i 0 : Nat) : Int) := by omega
        refine iteY z' ?_
        rw [if_pos z]
        refine ⟨_, rfl, _, hD1, Nat.lt_of_le_of_lt (by rw [natsV_len]; exact Nat.le_trans (List.length_filter_le _ _) (by rw [List.length_range]; omega) : _ ≤ 8) (by decide), Same.mut S1 hD, ?_⟩
        rw [upd_same, natsV_snoc]
      · have z' : ¬ ((nw.getD i 0 : Nat) : Int) < ((cs.getD i 0 : Nat) : Int) := by omega
        refine iteN z' ?_
        rw [if_neg z, List.append_nil]
        exact ⟨S1, hD1⟩
    rintro H1 ⟨S1, hD1⟩
    generalize hhs : (List.range cs.length).filter (fun h => decide (nw.getD h 0 < cs.getD h 0)) = hs at hD1
    have hsl : hs.length ≤ 8 := by rw [← hhs]; exact Nat.le_trans (List.length_filter_le _ _) (by rw [List.length_range]; omega)
    have hsm : ∀ h ∈ hs, h < cs.length := fun h hm => by
      rw [← hhs] at hm
      exact List.mem_range.mp (List.mem_filter.mp hm).1
    refine ⟨_, rfl, D, rfl, ⟨_, SqL.of hD1⟩, fun D2 hD2 => ?_⟩
    refine lc_it (walk_list (xs := natsV hs)) (fun i H' => Same H1 H' ∧ H' D2 = some (.lst (natsV ((hs.take i).filter fun h => okB N nw h)))) ⟨Same.new hD2, upd_same⟩ (fun i H' _ ⟨S, _⟩ => SqL.of (S _ _ hD1)) ?_ ?_
    · rintro i y H2 H3 hi ⟨S2, hE⟩ ⟨rfl, hy⟩
      rw [natsV_len] at hi
      obtain ⟨h, eh⟩ : ∃ h, hs[i]? = some h := ⟨_, List.getElem?_eq_getElem hi⟩
      rw [natsV_get eh] at hy
      cases hy
      have hhl := hsm h (List.mem_of_getElem? eh)
      have S02 := S1.trans S2
      refine ⟨rfl, _, rfl, _, rfl, _, rfl, fo, a, N, nw, cs, h, rfl, hF.same S02, hnow.same S02, by omega, hlen, hok, hN, fun l xs H4 hl hxe fl S4 => ?_⟩
      refine ⟨by show 0 ≤ sizeLine; decide, fun e he => ?_⟩
      have Se := Same.new (o := .lst []) he
      refine ⟨l, e, xs, rfl, rfl, SqL.of (Se _ _ hl), SqL.of upd_same, _, rfl, ?_⟩
      rw [hxe]
      have etk : hs.take (i + 1) = hs.take i ++ [h] := by rw [List.take_succ, eh] <;> rfl
      have hE2 := Se _ _ (S4 _ _ hE)
      have S3 := S2.trans (S4.trans Se)
      rw [etk, List.filter_append]
      cases hb : okB N nw h with
      | true =>
        refine ⟨_, rfl, _, hE2, Nat.lt_of_le_of_lt (by rw [natsV_len]; exact Nat.le_trans (List.length_filter_le _ _) (by rw [List.length_take]; omega) : _ ≤ 8) (by decide), Same.mut S3 hD2, ?_⟩
        rw [upd_same, natsV_snoc, List.filter_cons_of_pos hb]
        rfl
      | false =>
        refine ⟨S3, ?_⟩
        rw [List.filter_cons_of_neg (by rw [hb]; decide), List.filter_nil, List.append_nil]
        exact hE2
    · rintro H2 ⟨S2, hE⟩
      rw [natsV_len, List.take_length, ← hhs] at hE
      exact q D2 H2 hE (S1.free hD2) (S1.trans S2)
end
end K72

set_option Elab.async false
set_option linter.all false
set_option maxRecDepth 100000
set_option maxHeartbeats 4000000
/-! keeps, first_order -/
namespace K72
open PySem PySem.Spec PyProof.Rows L2 TL
def dueN (cs : List Nat) (i : Nat) : List Nat := (List.range i).flatMap fun h => List.replicate (cs.getD h 0) h
def keepsB (n : Nat) (N : List (List Nat)) (w : List Nat) : Bool := (List.range w.length).all fun t => okB N (cntV (w.take t) n) (w.getD t 0)
def sp_keeps : Sp := fun vs H Q _ => ∃ (r o : Addr) (cs w : List Nat) (N : List (List Nat)), vs = [.ref r, .ref o] ∧ RecAt H r cs N ∧ (∀ q ∈ N, Qok cs q) ∧ N.length ≤ 1000 ∧ cs.length ≤ 8 ∧ OrdAt H o w ∧ w.length < 64 ∧ (∀ h, h < cs.length → w.count h = cs.getD h 0) ∧ (∀ h ∈ w, h < cs.length) ∧
  ∀ H', Same H H' → Q (.bl (keepsB cs.length N w)) H'
theorem dueN_succ (cs : List Nat) (i : Nat) : dueN cs (i + 1) = dueN cs i ++ List.replicate (cs.getD i 0) i := by
  unfold dueN
  rw [List.range_succ, List.flatMap_append, List.flatMap_cons, List.flatMap_nil, List.append_nil]
theorem dueN_count (cs : List Nat) (h : Nat) : ∀ i, (dueN cs i).count h = if h < i then cs.getD h 0 else 0
  | 0 => by rw [if_neg (Nat.not_lt_zero h)] <;> rfl
  | i + 1 => by
    rw [dueN_succ, List.count_append, dueN_count cs h i, List.count_replicate]
    by_cases e : i = h
    · subst e
      rw [if_neg (Nat.lt_irrefl _), if_pos (Nat.lt_succ_self _)]
      simp
    · have e2 : ¬ (i == h) = true := by simpa using e
      rw [if_neg e2]
      by_cases z : h < i
      · rw [if_pos z, if_pos (Nat.lt_succ_of_lt z)]; rfl
      · rw [if_neg z, if_neg (fun k => by omega)]
theorem dueN_sorted (cs : List Nat) (i : Nat) : (dueN cs i).Pairwise (· ≤ ·) := by
  unfold dueN
  rw [List.pairwise_flatMap]
  refine ⟨fun a _ => List.pairwise_replicate.mpr (.inr (Nat.le_refl _)), (List.pairwise_lt_range).imp fun {a b} h x hx y hy => ?_⟩
  rw [List.eq_of_mem_replicate hx, List.eq_of_mem_replicate hy]
  omega
theorem dueN_perm {cs w : List Nat} (h1 : ∀ h, h < cs.length → w.count h = cs.getD h 0) (h2 : ∀ h ∈ w, h < cs.length) : w.Perm (dueN cs cs.length) := by
  refine List.perm_iff_count.mpr fun h => ?_
  rw [dueN_count]
  by_cases z : h < cs.length
  · rw [if_pos z, h1 h z]
  · rw [if_neg z]
    exact List.count_eq_zero.mpr fun m => z (h2 h m)
theorem rep_nat (h n : Nat) : (List.replicate n [V.int (h : Int)]).flatten = natsV (List.replicate n h) := by
  induction n with
  | zero => rfl
  | succ n ih => rw [List.replicate_succ, List.replicate_succ, List.flatten_cons, ih] <;> rfl
theorem natsV_app (a b : List Nat) : natsV a ++ natsV b = natsV (a ++ b) := by unfold natsV; rw [List.map_append]
theorem natsV_zeros (n : Nat) : (List.replicate n [V.int 0]).flatten = natsV (cntV [] n) := by rw [flat_rep, natsV_rep, cntV_nil]
theorem cntV_set {w : List Nat} {n h k : Nat} (hh : h < n) (hk : w.count h = k) : (cntV w n).set h (k + 1) = cntV (w ++ [h]) n := by rw [cntV_snoc hh, hk]
section
variable {P : Program} {w : World} {K : PySem.W.Frag} {mg : Str → Option Value} {base : Heap} {f : Addr} {fd : FuncData}
theorem sc_keeps : FnScope ["record", "order", "counts", "due", "hand", "firsts", "now"] ["record", "order"] (defScope s_keeps) := ⟨rfl, rfl, rfl, by decide +kernel, rfl, by decide +kernel, by decide +kernel⟩
theorem ok_keeps (T : Txt K mg) (F : FnP K "keeps" "keeps" s_keeps [] f fd) (h_need_record : Def1 P w K mg base "need_record" ["record"] [] 2 sp_need_record) (h_firsts_of : Def1 P w K mg base "firsts_of" ["record"] [] 1 sp_firsts_of)
    (h_waits_for : Def1 P w K mg base "waits_for" ["firsts", "now", "hand"] [] 1 (sp_waits_for K)) : FnOk P w K mg base CX0 3 f fd ["record", "order"] sp_keeps := by
  refine fok F sc_keeps (fun vs H Q E h => ?_) (fun cdv A outer s H vs Q E hr h => ?_)
  · obtain ⟨_, _, _, _, _, rfl, _⟩ := h
    rfl
  · obtain ⟨r, o, cs, wd, N, rfl, hRec, hok, hN, h8, hO, h64, hcnt, hmem, q⟩ := h
    have hu : (A.deeper (envOfC "keeps" (defScope s_keeps) s.heap.objs.size f cdv)).units < cLine := by have := hr.un; omega
    refine ⟨_, (pss_cons (ps_expr (pe_cl h_need_record hr (pa_cons (pv 0) pa_nil)))
  (pss_cons (ps_set (i := 2) sc_keeps.nd rfl (Or.inl rfl) (pe_ix ix_tup (pv 0) pe_int (fun _ _ => rfl)))
  (pss_cons (ps_set (i := 3) sc_keeps.nd rfl (Or.inl rfl) (pe_lst pa_nil))
  (pss_cons (ps_for PassesOwn.never rfl (pi_range1 rfl T.n_range (pa_cons (pe_callB call_len_seq (by rfl) T.n_len (by decide +kernel) (pa_cons (pv 2) pa_nil)) pa_nil)) (pg_name (i := 4) sc_keeps.nd rfl (Or.inl rfl))
  (pss_one (ps_set (i := 3) sc_keeps.nd rfl (Or.inl rfl) (pe_op op_cat (pv 3) (pe_op op_rep (pe_lst (pa_cons (pv 4) pa_nil)) (pe_ix ix_list (pv 2) (pv 4) (fun _ _ => rfl)))))))
  (pss_cons (ps_if (pt_cmpR (op_neD hr.units) (pe_callB cr_sorted (by rfl) T.n_sorted (by decide +kernel) (pa_cons (pv 1) pa_nil)) (pv 3) (nomark _))
  (pss_one ps_never)
  pss_nil)
  (pss_cons (ps_set (i := 5) sc_keeps.nd rfl (Or.inl rfl) (pe_cl h_firsts_of hr (pa_cons (pv 0) pa_nil)))
  (pss_cons (ps_set (i := 6) sc_keeps.nd rfl (Or.inl rfl) (pe_op op_rep (pe_lst (pa_cons pe_int pa_nil)) (pe_callB call_len_seq (by rfl) T.n_len (by decide +kernel) (pa_cons (pv 2) pa_nil))))
  (pss_cons (ps_for PassesOwn.never rfl (pi_list (pv 1)) (pg_name (i := 4) sc_keeps.nd rfl (Or.inl rfl))
  (pss_cons (ps_if (pt_cmpR (op_neNil hu) (pe_cl h_waits_for hr (pa_cons (pv 5) (pa_cons (pv 6) (pa_cons (pv 4) pa_nil)))) (pe_lst pa_nil) (nomark _))
  (pss_one (ps_ret pe_bl))
  pss_nil)
  (pss_one (ps_augS (pv 6) (pv 4) get_list pe_int ip_add set_list))))
  (pss_one (ps_ret pe_bl)))))))))), ?_⟩
    have hRec0 := hRec
    obtain ⟨c, l, hrr, hc, _⟩ := hRec0
    have hpm := dueN_perm hcnt hmem
    have hcs : ∀ h, h < cs.length → cs.getD h 0 ≤ 63 := fun h hh => by
      rw [← hcnt h hh]
      have := List.count_le_length (a := h) (l := wd)
      omega
    refine ⟨_, rfl, r, cs, N, rfl, hRec, hok, ?_⟩
    refine ⟨_, rfl, _, _, _, _, rfl, rfl, SqT.of hrr, rfl, ?_⟩
    refine ⟨by show 0 ≤ sizeLine; decide, fun d0 hd0 => ?_⟩
    refine ⟨_, rfl, c, _, rfl, .inl (SqL.of (Same.new hd0 _ _ hc)), ((cs.length : Nat) : Int), by rw [natsV_len], by omega, by omega, for_range (n := cs.length) (fun i σ H' => ∃ (d : Addr) (v4 : Option V), σ = [some (.ref r), some (.ref o), some (.ref c), some (.ref d), v4, none, none] ∧ Same H H' ∧ H' d = some (.lst (natsV (dueN cs i))))
      ⟨d0, none, rfl, Same.new hd0, upd_same⟩ ?_ ?_⟩
    · rintro i σ H1 hi ⟨d, v4, rfl, S1, hd⟩
      simp only [Int.zero_add]
      refine ⟨_, rfl, _, rfl, by show 1 ≤ sizeLine; decide, fun e he => ?_⟩
      have Se := Same.new (o := .lst [.int (i : Int)]) he
      have h63 := hcs i hi
      refine ⟨_, rfl, _, rfl, _, _, _, _, rfl, rfl, SqL.of (Se _ _ (S1 _ _ hc)), natsV_ix (getD_at hi), e, _, _, rfl, rfl, upd_same, by omega, by omega, szw (by show 1 * ((cs.getD i 0 : Nat) : Int).toNat ≤ 100000; omega), fun g hg => ?_⟩
      have eN : ((cs.getD i 0 : Nat) : Int).toNat = cs.getD i 0 := by omega
      rw [eN, rep_nat]
      have Sg := Same.new (o := .lst (natsV (List.replicate (cs.getD i 0) i))) hg
      have hd2 := Sg _ _ (Se _ _ hd)
      have hdl : (natsV (dueN cs i)).length ≤ 500 := by
        rw [natsV_len]
        have : ∀ j, j ≤ cs.length → (dueN cs j).length ≤ j * 63 := fun j => by
          induction j with
          | zero => intro _; exact Nat.le_refl _
          | succ j ih =>
            intro hj
            rw [dueN_succ, List.length_append, List.length_replicate]
            have := ih (by omega)
            have := hcs j (by omega)
            omega
        have := this i (by omega)
        omega
      refine ⟨d, g, _, _, rfl, rfl, hd2, upd_same, szw (by rw [natsV_len, natsV_len, List.length_replicate]; rw [natsV_len] at hdl; omega), fun z hz => ?_⟩
      rw [natsV_app, ← dueN_succ]
      exact ⟨z, _, rfl, S1.trans (Se.trans (Sg.trans (Same.new hz))), upd_same⟩
    · rintro σ H1 ⟨d, v4, rfl, S1, hd⟩
      refine ⟨_, rfl, o, wd.map fun i : Nat => (i : Int), rfl, by rw [← natsV_ints]; exact SqL.of (S1 _ _ hO), by rw [List.length_map]; exact h64, fun ns' p hp1 hp2 hfp => ?_⟩
      have ens : ns'.map V.int = natsV (dueN cs cs.length) := by
        rw [natsV_ints]
        have e : ns' = (dueN cs cs.length).map fun i : Nat => (i : Int) := by
          refine List.Perm.eq_of_pairwise (le := (· ≤ ·)) (fun a b _ _ h1 h2 => Int.le_antisymm h1 h2) hp2 ?_ (hp1.trans (hpm.map _))
          rw [List.pairwise_map]
          exact (dueN_sorted _ _).imp fun h => by omega
        rw [e]
      rw [ens]
      have Sp := Same.new (o := .lst (natsV (dueN cs cs.length))) hfp
      refine ⟨_, rfl, .list ((dueN cs cs.length).map fun i : Nat => PyData.int (i : Int)), .list ((dueN cs cs.length).map fun i : Nat => PyData.int (i : Int)), .lst (SqL.of upd_same) (dp_nats _), .lst (SqL.of (Sp _ _ hd)) (dp_nats _), shaped_nats _, shaped_nats _, _, rfl, ?_⟩
      rw [eqv_shaped (shaped_nats _)]
      refine iteF ?_
      have S2 := S1.trans Sp
      generalize upd H1 p (.lst (natsV (dueN cs cs.length))) = H2 at S2
      refine ⟨_, rfl, r, cs, N, rfl, hRec.same S2, hok, hN, fun fo H3 hF ffo S3 => ?_⟩
      have S03 := S2.trans S3
      refine ⟨by show 1 ≤ sizeLine; decide, fun l0 hl0 => ?_⟩
      refine ⟨_, rfl, c, _, rfl, .inl (SqL.of (Same.new hl0 _ _ (S03 _ _ hc))), l0, ((natsV cs).length : Int), _, rfl, rfl, upd_same, by omega, by rw [natsV_len]; omega, szw (by show 1 * (((natsV cs).length : Nat) : Int).toNat ≤ 100000; rw [natsV_len]; omega), fun nwa hnwa => ?_⟩
      have eN : (((natsV cs).length : Nat) : Int).toNat = cs.length := by rw [natsV_len]; omega
      rw [eN, natsV_zeros]
      have fnw3 : H3 nwa = none := by
        by_cases z : nwa = l0
        · rw [z, upd_same] at hnwa; cases hnwa
        · rw [upd_ne z] at hnwa; exact hnwa
      have fnw := S03.free fnw3
      have S34 : Same H3 (upd (upd H3 l0 (.lst [.int 0])) nwa (.lst (natsV (cntV [] cs.length)))) := (Same.new hl0).trans (Same.new hnwa)
      refine ⟨_, rfl, o, rfl, ⟨_, SqL.of (S34 _ _ (S03 _ _ hO))⟩, for_it (walk_list (xs := natsV wd)) (fun t σ H' => ∃ v4 : Option V, σ = [some (.ref r), some (.ref o), some (.ref c), some (.ref d), v4, some (.ref fo), some (.ref nwa)] ∧ Same H3 H' ∧ H' nwa = some (.lst (natsV (cntV (wd.take t) cs.length))) ∧
          (List.range t).all (fun t => okB N (cntV (wd.take t) cs.length) (wd.getD t 0)) = true)
        ⟨_, rfl, S34, upd_same, rfl⟩ (fun t σ H' _ ⟨_, _, S, _⟩ => SqL.of (S _ _ (S03 _ _ hO))) ?_ ?_⟩
      · rintro t y σ H4 H5 ht ⟨v4, rfl, S4, hnw, hall⟩ ⟨rfl, hy⟩
        rw [natsV_len] at ht
        have ewt : wd[t]? = some (wd.getD t 0) := getD_at ht
        rw [natsV_get ewt] at hy
        cases hy
        have hwm := hmem _ (List.mem_of_getElem? ewt)
        refine ⟨_, rfl, _, rfl, _, rfl, fo, nwa, N, cntV (wd.take t) cs.length, cs, wd.getD t 0, rfl, hF.same S4, .inl (SqL.of hnw), by rw [cntV_len]; exact hwm, cntV_len _ _, hok, hN, fun l xs H6 hl hxe fl S6 => ?_⟩
        refine ⟨by show 0 ≤ sizeLine; decide, fun e he => ?_⟩
        have Se := Same.new (o := .lst []) he
        refine ⟨l, e, xs, rfl, rfl, SqL.of (Se _ _ hl), SqL.of upd_same, _, rfl, ?_⟩
        rw [hxe]
        have S5 := S4.trans (S6.trans Se)
        have hnw5 := Se _ _ (S6 _ _ hnw)
        cases hb : okB N (cntV (wd.take t) cs.length) (wd.getD t 0) with
        | false =>
          have hq : keepsB cs.length N wd = false := by
            unfold keepsB
            rw [List.all_eq_false]
            exact ⟨t, List.mem_range.mpr ht, by rw [hb]; decide⟩
          rw [hq] at q
          exact q _ (S03.trans S5)
        | true =>
          have ec : (cntV (wd.take t) cs.length)[wd.getD t 0]? = some ((wd.take t).count (wd.getD t 0)) := cntV_at hwm
          refine ⟨_, rfl, _, rfl, _, _, _, _, rfl, rfl, SqL.of hnw5, natsV_ix ec, _, _, rfl, rfl, _, _, _, wd.getD t 0, rfl, rfl, hnw5, ixN_nat (by rw [natsV_len, cntV_len]; exact hwm), ?_⟩
          have e1 : (((wd.take t).count (wd.getD t 0) : Nat) : Int) + 1 = (((wd.take t).count (wd.getD t 0) + 1 : Nat) : Int) := by omega
          simp only [e1, natsV_set]
          refine ⟨_, rfl, Same.mut S5 fnw3, ?_, ?_⟩
          · rw [upd_same, cntV_set hwm rfl, show wd.take (t + 1) = wd.take t ++ [wd.getD t 0] by rw [List.take_succ, ewt] <;> rfl]
          · rw [List.range_succ, List.all_append, hall, List.all_cons, List.all_nil, hb]
            rfl
      · rintro σ H4 ⟨v4, rfl, S4, hnw, hall⟩
        rw [natsV_len] at hall
        have hq : keepsB cs.length N wd = true := hall
        rw [hq] at q
        exact q _ (S03.trans S4)
end
end K72

set_option Elab.async false
set_option linter.all false
set_option maxRecDepth 100000
set_option maxHeartbeats 4000000
/-! first_order -/
namespace K72
open PySem PySem.Spec PyProof.Rows L2 TL
def greedy (cs : List Nat) (N : List (List Nat)) : Nat → List Nat
  | 0 => []
  | k + 1 => greedy cs N k ++ [(readyL cs N (cntV (greedy cs N k) cs.length)).headD 0]
theorem greedy_len (cs : List Nat) (N : List (List Nat)) : ∀ k, (greedy cs N k).length = k
  | 0 => rfl
  | k + 1 => by show (greedy cs N k ++ [_]).length = _; rw [List.length_append, greedy_len cs N k] <;> rfl
theorem readyL_lt {cs : List Nat} {N : List (List Nat)} {nw : List Nat} {h : Nat} (m : h ∈ readyL cs N nw) : h < cs.length := List.mem_range.mp (List.mem_filter.mp (List.mem_filter.mp m).1).1
def sp_first_order : Sp := fun vs H Q _ => ∃ (r : Addr) (cs : List Nat) (N : List (List Nat)), vs = [.ref r] ∧ RecAt H r cs N ∧ (∀ q ∈ N, Qok cs q) ∧ N.length ≤ 1000 ∧ cs.length ≤ 8 ∧ cs.sum ≤ 60 ∧ (∀ k, k < cs.sum → readyL cs N (cntV (greedy cs N k) cs.length) ≠ []) ∧
  ∀ l H', H' l = some (.lst (natsV (greedy cs N cs.sum))) → Same H H' → Q (.ref l) H'
theorem sum_ints (l : List Nat) : (l.map fun i : Nat => (i : Int)).sum = ((l.sum : Nat) : Int) := by
  induction l with
  | nil => rfl
  | cons a l ih => rw [List.map_cons, List.sum_cons, List.sum_cons, ih] <;> omega
section
variable {P : Program} {w : World} {K : PySem.W.Frag} {mg : Str → Option Value} {base : Heap} {f : Addr} {fd : FuncData}
theorem sc_first_order : FnScope ["record", "counts", "firsts", "now", "order", "hands"] ["record"] (defScope s_first_order) := ⟨rfl, rfl, rfl, by decide +kernel, rfl, by decide +kernel, by decide +kernel⟩
theorem ok_first_order (T : Txt K mg) (F : FnP K "first_order" "first_order" s_first_order [] f fd) (h_need_record : Def1 P w K mg base "need_record" ["record"] [] 2 sp_need_record) (h_firsts_of : Def1 P w K mg base "firsts_of" ["record"] [] 1 sp_firsts_of)
    (h_ready : Def1 P w K mg base "ready" ["counts", "firsts", "now"] [] 2 (sp_ready K)) : FnOk P w K mg base CX0 3 f fd ["record"] sp_first_order := by
  refine fok F sc_first_order (fun vs H Q E h => ?_) (fun cdv A outer s H vs Q E hr h => ?_)
  · obtain ⟨_, _, _, rfl, _⟩ := h
    rfl
  · obtain ⟨r, cs, N, rfl, hRec, hok, hN, h8, h60, hprog, q⟩ := h
    have hu : (A.deeper (envOfC "first_order" (defScope s_first_order) s.heap.objs.size f cdv)).units < cLine := by have := hr.un; omega
    refine ⟨_, (pss_cons (ps_expr (pe_cl h_need_record hr (pa_cons (pv 0) pa_nil)))
  (pss_cons (ps_set (i := 1) sc_first_order.nd rfl (Or.inl rfl) (pe_ix ix_tup (pv 0) pe_int (fun _ _ => rfl)))
  (pss_cons (ps_set (i := 2) sc_first_order.nd rfl (Or.inl rfl) (pe_cl h_firsts_of hr (pa_cons (pv 0) pa_nil)))
  (pss_cons (ps_set (i := 3) sc_first_order.nd rfl (Or.inl rfl) (pe_op op_rep (pe_lst (pa_cons pe_int pa_nil)) (pe_callB call_len_seq (by rfl) T.n_len (by decide +kernel) (pa_cons (pv 1) pa_nil))))
  (pss_cons (ps_set (i := 4) sc_first_order.nd rfl (Or.inl rfl) (pe_lst pa_nil))
  (pss_cons (ps_while PassesOwn.never (pt_cmpR op_lt (pe_callB call_len_seq (by rfl) T.n_len (by decide +kernel) (pa_cons (pv 4) pa_nil)) (pe_callB (cr_sum rfl) (by rfl) T.n_sum (by decide +kernel) (pa_cons (pv 1) pa_nil)) (nomark _))
  (pss_cons (ps_set (i := 5) sc_first_order.nd rfl (Or.inl rfl) (pe_cl h_ready hr (pa_cons (pv 1) (pa_cons (pv 2) (pa_cons (pv 3) pa_nil)))))
  (pss_cons (ps_if (pt_cmpR (op_eqNil hu) (pv 5) (pe_lst pa_nil) (nomark _))
  (pss_one (ps_ret pe_non))
  pss_nil)
  (pss_cons (ps_expr (pe_bm PySem.F.plainAttrs_list PySem.F.slot_list_append PySem.F.type_list_append mt_append (pv 4) (pa_cons (pe_ix ix_list (pv 5) pe_int (fun _ _ => rfl)) pa_nil)))
  (pss_one (ps_augS (pv 3) (pe_ix ix_list (pv 5) pe_int (fun _ _ => rfl)) get_list pe_int ip_add set_list))))))
  (pss_one (ps_ret (pv 4))))))))), ?_⟩
    have hRec0 := hRec
    obtain ⟨c, l, hrr, hc, _⟩ := hRec0
    refine ⟨_, rfl, r, cs, N, rfl, hRec, hok, ?_⟩
    refine ⟨_, rfl, _, _, _, _, rfl, rfl, SqT.of hrr, rfl, ?_⟩
    refine ⟨_, rfl, r, cs, N, rfl, hRec, hok, hN, fun fo H3 hF ffo S3 => ?_⟩
    refine ⟨by show 1 ≤ sizeLine; decide, fun l0 hl0 => ?_⟩
    refine ⟨_, rfl, c, _, rfl, .inl (SqL.of (Same.new hl0 _ _ (S3 _ _ hc))), l0, ((natsV cs).length : Int), _, rfl, rfl, upd_same, by omega, by rw [natsV_len]; omega, szw (by show 1 * (((natsV cs).length : Nat) : Int).toNat ≤ 100000; rw [natsV_len]; omega), fun nwa hnwa => ?_⟩
    have eN : (((natsV cs).length : Nat) : Int).toNat = cs.length := by rw [natsV_len]; omega
    rw [eN, natsV_zeros]
    have fnw3 : H3 nwa = none := by
      by_cases z : nwa = l0
      · rw [z, upd_same] at hnwa; cases hnwa
      · rw [upd_ne z] at hnwa; exact hnwa
    have S4 : Same H3 (upd (upd H3 l0 (.lst [.int 0])) nwa (.lst (natsV (cntV [] cs.length)))) := (Same.new hl0).trans (Same.new hnwa)
    refine ⟨by show 0 ≤ sizeLine; decide, fun od hod => ?_⟩
    have nno : nwa ≠ od := ne_of_none upd_same hod
    have S5 := S4.trans (Same.new (o := .lst []) hod)
    have fod3 : H3 od = none := S4.free hod
    have hnw5 : (upd (upd (upd H3 l0 (.lst [.int 0])) nwa (.lst (natsV (cntV [] cs.length)))) od (.lst [])) nwa = some (.lst (natsV (cntV [] cs.length))) := (upd_ne nno).trans upd_same
    have hod5 : (upd (upd (upd H3 l0 (.lst [.int 0])) nwa (.lst (natsV (cntV [] cs.length)))) od (.lst [])) od = some (.lst []) := upd_same
    generalize upd (upd (upd H3 l0 (.lst [.int 0])) nwa (.lst (natsV (cntV [] cs.length)))) od (.lst []) = H5 at S5 hnw5 hod5
    refine ⟨fun m σ H' => ∃ (k : Nat) (v5 : Option V), k + m = cs.sum ∧ σ = [some (.ref r), some (.ref c), some (.ref fo), some (.ref nwa), some (.ref od), v5] ∧ Same H3 H' ∧ H' nwa = some (.lst (natsV (cntV (greedy cs N k) cs.length))) ∧ H' od = some (.lst (natsV (greedy cs N k))),
      ⟨cs.sum, 0, none, by omega, rfl, S5, hnw5, hod5⟩, ?_⟩
    rintro m σ H6 ⟨k, v5, hkm, rfl, S6, hnw, hod6⟩
    refine ⟨_, rfl, od, _, rfl, .inl (SqL.of hod6), _, rfl, c, cs.map fun i : Nat => (i : Int), rfl, by rw [← natsV_ints]; exact SqL.of (S6 _ _ (S3 _ _ hc)), _, _, rfl, rfl, _, rfl, ?_⟩
    rw [sum_ints, natsV_len, greedy_len]
    by_cases hk : k < cs.sum
    · have hk' : ((k : Nat) : Int) < ((cs.sum : Nat) : Int) := by omega
      refine iteY hk' ?_
      refine ⟨fun σ' H' => ∃ (v5 : Option V), σ' = [some (.ref r), some (.ref c), some (.ref fo), some (.ref nwa), some (.ref od), v5] ∧ Same H3 H' ∧ H' nwa = some (.lst (natsV (cntV (greedy cs N (k + 1)) cs.length))) ∧ H' od = some (.lst (natsV (greedy cs N (k + 1)))),
        fun σ' H' ⟨v5, e1, e2, e3, e4⟩ => ⟨m - 1, by omega, k + 1, v5, by omega, e1, e2, e3, e4⟩, ?_⟩
      refine ⟨_, rfl, _, rfl, _, rfl, c, fo, nwa, N, cntV (greedy cs N k) cs.length, cs, rfl, S6 _ _ (S3 _ _ hc), hF.same S6, .inl (SqL.of hnw), cntV_len _ _, hok, hN, h8, fun rl H7 hrl frl S7 => ?_⟩
      refine ⟨_, rfl, by show 0 ≤ sizeLine; decide, fun e he => ?_⟩
      have Se := Same.new (o := .lst []) he
      refine ⟨rl, e, _, rfl, rfl, SqL.of (Se _ _ hrl), SqL.of upd_same, _, rfl, ?_⟩
      have hne := hprog k hk
      generalize hR : readyL cs N (cntV (greedy cs N k) cs.length) = R at hne hrl
      cases R with
      | nil => exact absurd rfl hne
      | cons x R =>
        have eg : greedy cs N (k + 1) = greedy cs N k ++ [x] := by show greedy cs N k ++ [(readyL cs N (cntV (greedy cs N k) cs.length)).headD 0] = _; rw [hR] <;> rfl
        have hx : x < cs.length := readyL_lt (cs := cs) (N := N) (nw := cntV (greedy cs N k) cs.length) (by rw [hR]; exact List.mem_cons_self ..)
        refine iteF ?_
        have S8 := S6.trans (S7.trans Se)
        have hrl8 := Se _ _ hrl
        have hod8 := Se _ _ (S7 _ _ hod6)
        have hnw8 := Se _ _ (S7 _ _ hnw)
        have nrl : rl ≠ od := (ne_of_none hod6 frl).symm
        refine ⟨_, rfl, .inl ⟨rfl, _, SqL.of hod8⟩, _, rfl, _, _, _, _, rfl, rfl, SqL.of hrl8, at0, od, _, _, rfl, rfl, hod8, Nat.lt_of_le_of_lt (by rw [natsV_len, greedy_len]; omega : _ ≤ 60) (by decide), ?_⟩
        rw [natsV_snoc, ← eg]
        have hrl9 := (upd_ne (o := .lst (natsV (greedy cs N (k + 1)))) nrl).trans hrl8
        have hnw9 := (upd_ne (o := .lst (natsV (greedy cs N (k + 1)))) nno).trans hnw8
        have ec : (cntV (greedy cs N k) cs.length)[x]? = some ((greedy cs N k).count x) := cntV_at hx
        refine ⟨_, rfl, _, rfl, _, _, _, _, rfl, rfl, SqL.of hrl9, at0, _, _, _, _, rfl, rfl, SqL.of hnw9, natsV_ix ec, _, _, rfl, rfl, _, _, _, x, rfl, rfl, hnw9, ixN_nat (by rw [natsV_len, cntV_len]; exact hx), ?_⟩
        have e1 : (((greedy cs N k).count x : Nat) : Int) + 1 = (((greedy cs N k).count x + 1 : Nat) : Int) := by omega
        simp only [e1, natsV_set]
        refine ⟨_, rfl, Same.mut (Same.mut S8 fod3) fnw3, ?_, (upd_ne nno.symm).trans upd_same⟩
        rw [upd_same, cntV_set hx rfl, ← eg]
    · have hk' : ¬ ((k : Nat) : Int) < ((cs.sum : Nat) : Int) := by omega
      refine iteN hk' ?_
      have ek : k = cs.sum := by omega
      subst ek
      exact ⟨_, rfl, q od H6 hod6 (S3.trans S6)⟩
end
end K72

set_option Elab.async false
set_option linter.all false
set_option maxRecDepth 100000
set_option maxHeartbeats 4000000
/-! next_layer -/
namespace K72
open PySem PySem.Spec PyProof.Rows L2 TL
def keyN (l : List Nat) : List Key := l.map fun i : Nat => .inl (i : Int)
theorem keyN_inj {a b : List Nat} (h : keyN a = keyN b) : a = b := by
  unfold keyN at h
  exact (List.map_inj_right (fun x y e => by injection e with e; omega)).mp h
theorem keyN_kV (l : List Nat) : (keyN l).map kV = natsV l := by unfold keyN natsV; rw [List.map_map] <;> rfl
def getA (L : List (List Nat × Nat)) (k : List Nat) : Option Nat := (L.find? fun e => decide (e.1 = k)).map (·.2)
def putA (L : List (List Nat × Nat)) (k : List Nat) (v : Nat) : List (List Nat × Nat) :=
  if (L.any fun e => decide (e.1 = k)) = true then L.map (fun e => if e.1 = k then (e.1, v) else e) else L ++ [(k, v)]
def addA (L : List (List Nat × Nat)) (k : List Nat) (v : Nat) : List (List Nat × Nat) := putA L k ((getA L k).getD 0 + v)
def kvsL (L : List (List Nat × Nat)) : List (List Key × V) := L.map fun e => (keyN e.1, .int (e.2 : Int))
theorem keyN_dec (a b : List Nat) : decide (keyN a = keyN b) = decide (a = b) := by
  by_cases h : a = b
  · rw [decide_eq_true h, h]; exact decide_eq_true rfl
  · rw [decide_eq_false h]; exact decide_eq_false fun e => h (keyN_inj e)
theorem kvsL_any (k : List Nat) : ∀ L : List (List Nat × Nat), ((kvsL L).any fun kv => decide (kv.1 = keyN k)) = L.any fun e => decide (e.1 = k)
  | [] => rfl
  | e :: L => by
    show (decide (keyN e.1 = keyN k) || (kvsL L).any _) = (decide (e.1 = k) || L.any _)
    rw [keyN_dec, kvsL_any k L]
theorem kvsL_val (k : List Nat) : ∀ L : List (List Nat × Nat), valV (kvsL L) (keyN k) = (getA L k).map fun n : Nat => V.int (n : Int)
  | [] => rfl
  | e :: L => by
    show valV ((keyN e.1, V.int (e.2 : Int)) :: kvsL L) (keyN k) = _
    by_cases h : e.1 = k
    · rw [valV_pos (p := (keyN e.1, V.int (e.2 : Int))) (congrArg keyN h)]
      unfold getA
      rw [List.find?_cons_of_pos (by simpa using h)]
      rfl
    · rw [valV_neg (p := (keyN e.1, V.int (e.2 : Int))) (fun z => h (keyN_inj z)), kvsL_val k L]
      unfold getA
      rw [List.find?_cons_of_neg (by simpa using h)]
theorem kvsL_put (L : List (List Nat × Nat)) (k : List Nat) (v : Nat) : putK (kvsL L) (keyN k) (.int (v : Int)) = kvsL (putA L k v) := by
  unfold putK putA
  rw [kvsL_any]
  by_cases h : (L.any fun e => decide (e.1 = k)) = true
  · rw [if_pos h, if_pos h]
    unfold kvsL
    rw [List.map_map, List.map_map]
    refine List.map_congr_left fun e _ => ?_
    show (if keyN e.1 = keyN k then (keyN e.1, V.int (v : Int)) else (keyN e.1, V.int (e.2 : Int))) = (keyN (if e.1 = k then (e.1, v) else e).1, V.int (((if e.1 = k then (e.1, v) else e).2 : Nat) : Int))
    by_cases z : e.1 = k
    · rw [if_pos (congrArg keyN z), if_pos z]
    · rw [if_neg (fun y => z (keyN_inj y)), if_neg z]
  · rw [if_neg h, if_neg h]
    unfold kvsL
    rw [List.map_append]
    rfl
theorem putA_len (L : List (List Nat × Nat)) (k : List Nat) (v : Nat) : (putA L k v).length ≤ L.length + 1 := by
  unfold putA
  split
  · rw [List.length_map]; omega
  · rw [List.length_append]; exact Nat.le_refl _
def stepA (cs : List Nat) (N : List (List Nat)) (acc : List (List Nat × Nat)) (e : List Nat × Nat) (hs : List Nat) : List (List Nat × Nat) := hs.foldl (fun acc h => addA acc (e.1.set h (e.1.getD h 0 + 1)) e.2) acc
def nextL (cs : List Nat) (N : List (List Nat)) (L : List (List Nat × Nat)) : List (List Nat × Nat) := L.foldl (fun acc e => stepA cs N acc e (readyL cs N e.1)) []
theorem stepA_len (cs : List Nat) (N : List (List Nat)) (e : List Nat × Nat) : ∀ (hs : List Nat) (acc : List (List Nat × Nat)), (stepA cs N acc e hs).length ≤ acc.length + hs.length
  | [], acc => Nat.le_refl _
  | h :: hs, acc => by
    have := stepA_len cs N e hs (addA acc (e.1.set h (e.1.getD h 0 + 1)) e.2)
    have h2 := putA_len acc (e.1.set h (e.1.getD h 0 + 1)) ((getA acc (e.1.set h (e.1.getD h 0 + 1))).getD 0 + e.2)
    show (stepA cs N (addA acc _ _) e hs).length ≤ _
    unfold addA at this ⊢
    rw [List.length_cons]
    omega
theorem readyL_len (cs : List Nat) (N : List (List Nat)) (nw : List Nat) : (readyL cs N nw).length ≤ cs.length := by
  unfold readyL
  refine Nat.le_trans (List.length_filter_le _ _) (Nat.le_trans (List.length_filter_le _ _) ?_)
  rw [List.length_range]
  exact Nat.le_refl _
theorem foldl_len (cs : List Nat) (N : List (List Nat)) (h8 : cs.length ≤ 8) : ∀ (L : List (List Nat × Nat)) (acc : List (List Nat × Nat)), (L.foldl (fun acc e => stepA cs N acc e (readyL cs N e.1)) acc).length ≤ acc.length + 8 * L.length
  | [], acc => Nat.le_refl _
  | e :: L, acc => by
    have h1 := foldl_len cs N h8 L (stepA cs N acc e (readyL cs N e.1))
    have h2 := stepA_len cs N e (readyL cs N e.1) acc
    have h3 := readyL_len cs N e.1
    rw [List.foldl_cons, List.length_cons]
    omega
/-- tuples joined -/
theorem cat_any {K : PySem.W.Frag} {H : Hp} {a b : Addr} {xs ys : List V} {Q : VK} (ha : H a = some (.tup xs)) (hb : H b = some (.tup ys)) (hz : xs.length + ys.length ≤ sizeLine) (q : ∀ z H', H' z = some (.tup (xs ++ ys)) → Same H H' → Q (.ref z) H') : rCatA K (.ref a) (.ref b) H Q :=
  ⟨a, b, xs, ys, rfl, rfl, SqT.of ha, SqT.of hb, hz, fun e => q _ _ (by rw [e]; exact hb) (Same.refl _), fun _ e => q _ _ (by rw [e, List.append_nil]; exact ha) (Same.refl _), fun _ _ p hp => q _ _ upd_same (Same.new hp)⟩
theorem take_set {c : List Nat} {h v : Nat} (hh : h < c.length) : c.take h ++ [v] ++ c.drop (h + 1) = c.set h v := by
  rw [List.set_eq_take_append_cons_drop, if_pos hh, List.append_assoc]
  rfl
theorem cut_hi (c : List Nat) (h : Nat) (hh : h < c.length) : cutV (natsV c) none (some (h : Int)) = natsV (c.take h) := by
  unfold cutV
  have e1 : HT.sIx (natsV c).length 0 none = 0 := rfl
  have e2 : HT.sIx (natsV c).length (natsV c).length (some (h : Int)) = h := by rw [HT.sIx_nat, natsV_len]; omega
  rw [e1, e2]
  unfold natsV
  simp [List.map_take]
theorem cut_lo (c : List Nat) (h : Nat) (hh : h ≤ c.length) : cutV (natsV c) (some (h : Int)) none = natsV (c.drop h) := by
  unfold cutV
  have e1 : HT.sIx (natsV c).length 0 (some (h : Int)) = h := by rw [HT.sIx_nat, natsV_len]; omega
  have e2 : HT.sIx (natsV c).length (natsV c).length none = (natsV c).length := rfl
  rw [e1, e2]
  unfold natsV
  rw [List.map_drop, List.take_of_length_le (by simp)]
end K72

set_option Elab.async false
set_option linter.all false
set_option maxRecDepth 100000
set_option maxHeartbeats 4000000
/-! next_layer, the walk -/
namespace K72
open PySem PySem.Spec PyProof.Rows L2 TL
def LayerAt (H : Hp) (d : Addr) (L : List (List Nat × Nat)) : Prop := H d = some (.dT (kvsL L))
def sp_next_layer : Sp := fun vs H Q _ => ∃ (c fo d : Addr) (cs : List Nat) (N : List (List Nat)) (L : List (List Nat × Nat)), vs = [.ref c, .ref fo, .ref d] ∧ H c = some (.lst (natsV cs)) ∧ FirstsAt H fo N ∧ LayerAt H d L ∧ fo ≠ d ∧ (∀ q ∈ N, Qok cs q) ∧ N.length ≤ 1000 ∧ cs.length ≤ 8 ∧
  (∀ e ∈ L, e.1.length = cs.length) ∧ L.length ≤ 5000 ∧ ∀ th H', LayerAt H' th (nextL cs N L) → H th = none → Same H H' → Q (.ref th) H'
section
variable {P : Program} {w : World} {K : PySem.W.Frag} {mg : Str → Option Value} {base : Heap} {f : Addr} {fd : FuncData}
theorem sc_next_layer : FnScope ["counts", "firsts", "here", "there", "now", "ways", "hand", "after"] ["counts", "firsts", "here"] (defScope s_next_layer) := ⟨rfl, rfl, rfl, by decide +kernel, rfl, by decide +kernel, by decide +kernel⟩
theorem ok_next_layer (F : FnP K "next_layer" "next_layer" s_next_layer [] f fd) (h_ready : Def1 P w K mg base "ready" ["counts", "firsts", "now"] [] 2 (sp_ready K)) : FnOk P w K mg base CX0 3 f fd ["counts", "firsts", "here"] sp_next_layer := by
  refine fok F sc_next_layer (fun vs H Q E h => ?_) (fun cdv A outer s H vs Q E hr h => ?_)
  · obtain ⟨_, _, _, _, _, _, rfl, _⟩ := h
    rfl
  · obtain ⟨c, fo, d, cs, N, L, rfl, hc, hF, hL, nfd, hok, hN, h8, hlen, hLl, q⟩ := h
    have hu : (A.deeper (envOfC "next_layer" (defScope s_next_layer) s.heap.objs.size f cdv)).units + 1 < cLine := by have := hr.un; omega
    refine ⟨_, (pss_cons (ps_set (i := 3) sc_next_layer.nd rfl (Or.inl rfl) pe_dnewT)
  (pss_cons (ps_lock (ps_for PassesOwn.never rfl (pi_itemsT (pv 2)) (pg_tup (by rfl) (pgs_cons (pg_name (i := 4) sc_next_layer.nd rfl (Or.inl rfl)) (pgs_cons (pg_name (i := 5) sc_next_layer.nd rfl (Or.inl rfl)) pgs_nil)))
  (pss_one (ps_for PassesOwn.never rfl (pi_list (pe_cl h_ready hr (pa_cons (pv 0) (pa_cons (pv 1) (pa_cons (pv 4) pa_nil))))) (pg_name (i := 6) sc_next_layer.nd rfl (Or.inl rfl))
  (pss_cons (ps_set (i := 7) sc_next_layer.nd rfl (Or.inl rfl) (pe_op op_catA (pe_op op_catA (pe_slice sl_tupA (pv 4) po_none (po_some (pv 6))) (pe_tup (pa_cons (pe_op op_add (pe_ix ix_tup (pv 4) (pv 6) (fun _ _ => rfl)) pe_int) pa_nil))) (pe_slice sl_tupA (pv 4) (po_some (pe_op op_add (pv 6) pe_int)) po_none)))
  (pss_one (ps_dput hu (pv 3) (pv 7) (pe_op op_add (pe_dget2 hu (pv 3) (pv 7) pe_int ⟨rfl, rfl, rfl, rfl⟩) (pv 5)) rfl)))))))
  (pss_one (ps_ret (pv 3))))), ?_⟩
    refine fun th hth => ?_
    have ndt : d ≠ th := ne_of_none hL hth
    have nct : c ≠ th := ne_of_none hc hth
    refine ⟨d, .dT (kvsL L), (upd_ne ndt).trans hL, trivial, fun od => ?_⟩
    obtain ⟨Hf, eHf⟩ : ∃ Hf, Hf = upd (upd H th (.dT [])) d (.frz od (.dT (kvsL L))) := ⟨_, rfl⟩
    have hf : ∀ p o, H p = some o → p ≠ d → Hf p = some o := fun p o e n => by rw [eHf, upd_ne n, upd_ne (ne_of_none e hth)]; exact e
    have hfd : Hf d = some (.frz od (.dT (kvsL L))) := by rw [eHf]; exact upd_same
    have hfth : Hf th = some (.dT []) := by rw [eHf, upd_ne ndt.symm]; exact upd_same
    have tsf : TS H Hf := fun a xs e => hf a _ e (ne_of e hL (fun z => by cases z))
    have hcd : c ≠ d := ne_of hc hL (fun z => by cases z)
    have hcf := hf _ _ hc hcd
    have hFf : FirstsAt Hf fo N := by
      obtain ⟨kvs, e1, e2, e3⟩ := hF
      refine ⟨kvs, hf _ _ e1 nfd, e2, fun o m v hv => ?_⟩
      obtain ⟨l, xs, y1, y2, y3⟩ := e3 o m v hv
      exact ⟨l, xs, y1, hf _ _ y2 (ne_of y2 hL (fun z => by cases z)), y3.ts tsf⟩
    rw [← eHf]
    have fin : ∀ H', Same Hf (upd H' th (.dT [])) → (∀ p o, Hf p = some o → p ≠ th → H' p = some o) → Same H (upd H' d (.dT (kvsL L))) := fun H' _ k p o e => by
      by_cases z : p = d
      · rw [z, upd_same, ← hL, ← z, e]
      · rw [upd_ne z]
        exact k p o (hf p o e z) (ne_of_none e hth)
    have key : ∀ (i : Nat) (e : List Nat × Nat), L[i]? = some e → (kvsL L)[i]? = some (keyN e.1, .int (e.2 : Int)) := fun i e h => by unfold kvsL; rw [List.getElem?_map, h] <;> rfl
    have hkl : (kvsL L).length = L.length := by unfold kvsL; rw [List.length_map]
    have wk : Walk (ItiT d od (kvsL L)) (kvsL L).length (fun H => H d = some (.frz od (.dT (kvsL L)))) (fun i H x H' => ∃ T k v q, (kvsL L)[i]? = some (k, v) ∧ x = .ref T ∧ H T = none ∧ H q = some (.tup (k.map kV)) ∧ H' = upd H T (.tup [.ref q, v])) :=
      ⟨fun i H hi g => ⟨g, hi⟩, fun H g => ⟨g, Nat.le_refl _⟩, fun i H x H' _ _ y => y⟩
    refine ⟨_, rfl, d, od, kvsL L, rfl, hfd, for_it wk (fun i σ H' => ∃ v4 v5 v6 v7 : Option V, σ = [some (.ref c), some (.ref fo), some (.ref d), some (.ref th), v4, v5, v6, v7] ∧ Kp1 th Hf H' ∧
        H' th = some (.dT (kvsL ((L.take i).foldl (fun acc e => stepA cs N acc e (readyL cs N e.1)) []))))
      ⟨none, none, none, none, rfl, Kp1.refl _ _, hfth⟩ (fun i σ H' _ ⟨_, _, _, _, _, k, _⟩ => k _ _ hfd ndt) ?_ ?_⟩
    · rintro i y σ H1 H2 hi ⟨v4, v5, v6, v7, rfl, k1, hth1⟩ ⟨t, kk, v, qa, hkv, rfl, ht, hqa, rfl⟩
      rw [hkl] at hi
      obtain ⟨e, ee⟩ : ∃ e, L[i]? = some e := ⟨_, List.getElem?_eq_getElem hi⟩
      rw [key i e ee] at hkv
      cases hkv
      rw [keyN_kV] at hqa
      have hel := hlen e (List.mem_of_getElem? ee)
      have St := Same.new (o := .tup [.ref qa, .int (e.2 : Int)]) ht
      refine ⟨t, _, rfl, SqT.of upd_same, rfl, _, _, rfl, _, _, rfl, rfl, ?_⟩
      have hth2 := St _ _ hth1
      have hqa2 := St _ _ hqa
      have k2 : Kp1 th Hf (upd H1 t (.tup [.ref qa, .int (e.2 : Int)])) := k1.trans (Kp1.of St)
      generalize upd H1 t (.tup [.ref qa, .int (e.2 : Int)]) = H2 at hth2 hqa2 k2
      have ntc : c ≠ th := nct
      have nft : fo ≠ th := by
        obtain ⟨kvs, e1, _⟩ := hF
        exact ne_of_none e1 hth
      have tsk : ∀ H3 H4, H3 th = some (.dT (kvsL ((L.take i).foldl (fun acc e => stepA cs N acc e (readyL cs N e.1)) []))) → Kp1 th H3 H4 → TS H3 H4 := fun H3 H4 e k => TS.kp k e (fun xs z => by cases z)
      have hF2 : FirstsAt H2 fo N := by
        obtain ⟨kvs, e1, e2, e3⟩ := hFf
        refine ⟨kvs, k2 _ _ e1 nft, e2, fun o m v hv => ?_⟩
        obtain ⟨l, xs, y1, y2, y3⟩ := e3 o m v hv
        exact ⟨l, xs, y1, k2 _ _ y2 (ne_of y2 hfth (fun z => by cases z)), y3.ts (TS.kp k2 hfth (fun xs z => by cases z))⟩
      refine ⟨_, rfl, _, rfl, _, rfl, c, fo, qa, N, e.1, cs, rfl, k2 _ _ hcf ntc, hF2, .inr (SqT.of hqa2), hel, hok, hN, h8, fun rl H3 hrl frl S3 => ?_⟩
      have hrlen := readyL_len cs N e.1
      have etk : L.take (i + 1) = L.take i ++ [e] := by rw [List.take_succ, ee] <;> rfl
      generalize hacc : (L.take i).foldl (fun acc e => stepA cs N acc e (readyL cs N e.1)) [] = acc at hth2
      have hal : acc.length ≤ 40000 := by
        rw [← hacc]
        have := foldl_len cs N h8 (L.take i) []
        rw [List.length_take] at this
        simp only [List.length_nil] at this
        omega
      have nrt : rl ≠ th := (ne_of_none hth2 frl).symm
      refine ⟨rl, rfl, ⟨_, SqL.of hrl⟩, for_it (walk_list (xs := natsV (readyL cs N e.1))) (fun j σ H' => ∃ v6 v7 : Option V, σ = [some (.ref c), some (.ref fo), some (.ref d), some (.ref th), some (.ref qa), some (.int (e.2 : Int)), v6, v7] ∧ Kp1 th H3 H' ∧
          H' th = some (.dT (kvsL (stepA cs N acc e ((readyL cs N e.1).take j))))) ⟨_, _, rfl, Kp1.refl _ _, S3 _ _ hth2⟩ (fun j σ H' _ ⟨_, _, _, k, _⟩ => SqL.of (k _ _ hrl nrt)) ?_ ?_⟩
      · rintro j y σ H4 H5 hj ⟨v6, v7, rfl, k4, hth4⟩ ⟨rfl, hy⟩
        rw [natsV_len] at hj
        obtain ⟨h, eh⟩ : ∃ h, (readyL cs N e.1)[j]? = some h := ⟨_, List.getElem?_eq_getElem hj⟩
        rw [natsV_get eh] at hy
        cases hy
        have hhc := readyL_lt (List.mem_of_getElem? eh)
        have hhe : h < e.1.length := by omega
        have hqa5 : H5 qa = some (.tup (natsV e.1)) := k4 _ _ (S3 _ _ hqa2) (ne_of hqa2 hth2 (fun z => by cases z))
        have hn : (natsV e.1).length = e.1.length := natsV_len _
        -- after
        refine ⟨_, rfl, _, rfl, _, rfl, qa, _, rfl, SqT.of hqa5, fun w => absurd w.2 ?_, fun _ s1 hs1 => ?_⟩
        · rw [HT.sIx_nat, hn]
          omega
        rw [cut_hi e.1 h hhe]
        have Ss1 := Same.new (o := .tup (natsV (e.1.take h))) hs1
        have hqa6 := Ss1 _ _ hqa5
        refine ⟨_, rfl, _, rfl, _, _, _, _, rfl, rfl, SqT.of hqa6, natsV_ix (getD_at hhe), _, _, rfl, rfl, by show 1 ≤ sizeLine; decide, fun s2 hs2 => ?_⟩
        have e1 : ((e.1.getD h 0 : Nat) : Int) + 1 = ((e.1.getD h 0 + 1 : Nat) : Int) := by omega
        simp only [e1]
        have Ss2 := Same.new (o := .tup [.int ((e.1.getD h 0 + 1 : Nat) : Int)]) hs2
        have hs1' := Ss2 _ _ (upd_same (H := H5) (a := s1) (o := .tup (natsV (e.1.take h))))
        have htk : (natsV (e.1.take h)).length ≤ 8 := by rw [natsV_len, List.length_take]; omega
        refine cat_any hs1' upd_same (szw (by show _ + 1 ≤ 100000; omega)) fun z1 H6 hz1 S6 => ?_
        have hqa7 := S6 _ _ (Ss2 _ _ hqa6)
        have e2 : (h : Int) + 1 = ((h + 1 : Nat) : Int) := by omega
        refine ⟨_, rfl, _, rfl, _, _, rfl, rfl, _, rfl, qa, _, rfl, SqT.of hqa7, fun w => absurd w.1 ?_, fun _ s3 hs3 => ?_⟩
        · rw [e2, HT.sIx_nat, hn]
          omega
        rw [e2, cut_lo e.1 (h + 1) hhe]
        have Ss3 := Same.new (o := .tup (natsV (e.1.drop (h + 1)))) hs3
        have hdl : (natsV (e.1.drop (h + 1))).length ≤ 8 := by rw [natsV_len, List.length_drop]; omega
        refine cat_any (Ss3 _ _ hz1) upd_same (szw (by rw [List.length_append]; show _ + 1 + _ ≤ 100000; omega)) fun z2 H7 hz2 S7 => ?_
        have eset : natsV (e.1.take h) ++ [V.int ((e.1.getD h 0 + 1 : Nat) : Int)] ++ natsV (e.1.drop (h + 1)) = natsV (e.1.set h (e.1.getD h 0 + 1)) := by
          rw [← take_set hhe, ← natsV_app, ← natsV_app]
          rfl
        rw [eset] at hz2
        have S57 : Same H5 H7 := Ss1.trans (Ss2.trans (S6.trans (Ss3.trans S7)))
        have hth7 := S57 _ _ hth4
        have hkk : H7 z2 = some (.tup ((keyN (e.1.set h (e.1.getD h 0 + 1))).map kV)) := by rw [keyN_kV]; exact hz2
        -- there[after] = there.get(after, 0) + ways
        refine ⟨_, rfl, th, rfl, .inr ⟨_, .inl hth7⟩, _, rfl, _, DGet.t hth7 hkk, ?_⟩
        generalize hA2 : stepA cs N acc e ((readyL cs N e.1).take j) = A2 at hth4 hth7
        have ev : (valV (kvsL A2) (keyN (e.1.set h (e.1.getD h 0 + 1)))).getD (.int 0) = .int (((getA A2 (e.1.set h (e.1.getD h 0 + 1))).getD 0 : Nat) : Int) := by
          rw [kvsL_val]
          cases getA A2 (e.1.set h (e.1.getD h 0 + 1)) <;> rfl
        rw [ev]
        have e3 : (((getA A2 (e.1.set h (e.1.getD h 0 + 1))).getD 0 : Nat) : Int) + (e.2 : Int) = (((getA A2 (e.1.set h (e.1.getD h 0 + 1))).getD 0 + e.2 : Nat) : Int) := by omega
        have hA2l : (kvsL A2).length < sizeLine := by
          refine Nat.lt_of_le_of_lt (?_ : _ ≤ 50000) (by decide)
          unfold kvsL
          rw [List.length_map, ← hA2]
          have := stepA_len cs N e ((readyL cs N e.1).take j) acc
          rw [List.length_take] at this
          omega
        refine ⟨_, rfl, _, _, rfl, rfl, _, rfl, _, rfl, th, _, rfl, DPut.t hth7 hkk hA2l, ?_⟩
        simp only [e3]
        rw [kvsL_put]
        refine ⟨_, _, rfl, (k4.trans (Kp1.of S57)).trans (Kp1.upd _), ?_⟩
        rw [upd_same, show (readyL cs N e.1).take (j + 1) = (readyL cs N e.1).take j ++ [h] by rw [List.take_succ, eh] <;> rfl]
        show _ = some (HO.dT (kvsL (List.foldl _ acc ((readyL cs N e.1).take j ++ [h]))))
        rw [List.foldl_append]
        show _ = some (HO.dT (kvsL (addA (stepA cs N acc e ((readyL cs N e.1).take j)) _ _)))
        rw [hA2]
        rfl
      · rintro σ H4 ⟨v6, v7, rfl, k4, hth4⟩
        rw [natsV_len, List.take_length] at hth4
        refine ⟨_, _, _, _, rfl, k2.trans ((Kp1.of S3).trans k4), ?_⟩
        rw [hth4, etk, List.foldl_append, hacc]
        rfl
    · rintro σ H1 ⟨v4, v5, v6, v7, rfl, k1, hth1⟩
      rw [hkl, List.take_length] at hth1
      have S := fin H1 (fun p o e => by
        by_cases z : p = th
        · rw [z, hfth] at e; rw [z, upd_same]; exact e
        · rw [upd_ne z]; exact k1 p o e z) k1
      refine ⟨k1 _ _ hfd ndt, _, rfl, q th _ ?_ hth S⟩
      show (upd H1 d _) th = _
      rw [upd_ne ndt.symm]
      exact hth1
end
end K72

set_option Elab.async false
set_option linter.all false
set_option maxRecDepth 100000
set_option maxHeartbeats 4000000
/-! layers, how_many_cuts, how_many_orders -/
namespace K72
open PySem PySem.Spec PyProof.Rows L2 TL
def layerL (cs : List Nat) (N : List (List Nat)) : Nat → List (List Nat × Nat)
  | 0 => [(cntV [] cs.length, 1)]
  | k + 1 => nextL cs N (layerL cs N k)
def manyN (cs : List Nat) (N : List (List Nat)) : Nat → Nat
  | 0 => 1
  | k + 1 => manyN cs N k + (layerL cs N (k + 1)).length
theorem putA_mem {L : List (List Nat × Nat)} {k : List Nat} {v : Nat} {e : List Nat × Nat} (h : e ∈ putA L k v) : e.1 = k ∨ ∃ e' ∈ L, e.1 = e'.1 := by
  unfold putA at h
  split at h
  · obtain ⟨e', he', rfl⟩ := List.mem_map.mp h
    refine .inr ⟨e', he', ?_⟩
    split <;> rfl
  · rcases List.mem_append.mp h with h | h
    · exact .inr ⟨e, h, rfl⟩
    · rw [List.mem_singleton.mp h]
      exact .inl rfl
theorem nextL_lens {cs : List Nat} {N : List (List Nat)} {n : Nat} : ∀ (L acc : List (List Nat × Nat)), (∀ e ∈ L, e.1.length = n) → (∀ e ∈ acc, e.1.length = n) → ∀ e ∈ L.foldl (fun acc e => stepA cs N acc e (readyL cs N e.1)) acc, e.1.length = n
  | [], acc, _, ha => ha
  | x :: L, acc, hL, ha => by
    rw [List.foldl_cons]
    refine nextL_lens L _ (fun e he => hL e (List.mem_cons_of_mem _ he)) ?_
    have hx := hL x (List.mem_cons_self ..)
    generalize readyL cs N x.1 = hs
    induction hs generalizing acc with
    | nil => exact ha
    | cons h hs ih =>
      show ∀ e ∈ stepA cs N (addA acc _ _) x hs, _
      refine ih _ fun e he => ?_
      unfold addA at he
      rcases putA_mem he with h | ⟨e', h1, h2⟩
      · rw [h, List.length_set]; exact hx
      · rw [h2]; exact ha e' h1
theorem layerL_lens (cs : List Nat) (N : List (List Nat)) : ∀ k, ∀ e ∈ layerL cs N k, e.1.length = cs.length
  | 0 => fun e h => by rw [List.mem_singleton.mp h]; exact cntV_len _ _
  | k + 1 => nextL_lens _ [] (layerL_lens cs N k) fun e h => (by cases h)
def sp_layers : Sp := fun vs H Q _ => ∃ (r : Addr) (cs : List Nat) (N : List (List Nat)) (most : Nat), vs = [.ref r, .int (most : Int)] ∧ RecAt H r cs N ∧ (∀ q ∈ N, Qok cs q) ∧ N.length ≤ 1000 ∧ cs.length ≤ 8 ∧ cs.sum ≤ 60 ∧ most ≤ 5000 ∧ (∀ k, k ≤ cs.sum → manyN cs N k ≤ most) ∧
  ∀ t H', H' t = some (.tup [.int ((manyN cs N cs.sum : Nat) : Int), .int (((getA (layerL cs N cs.sum) cs).getD 0 : Nat) : Int)]) → Same H H' → Q (.ref t) H'
def sp_count (g : List Nat → List (List Nat) → Nat) : Sp := fun vs H Q _ => ∃ (r : Addr) (cs : List Nat) (N : List (List Nat)) (most : Nat), vs = [.ref r, .int (most : Int)] ∧ RecAt H r cs N ∧ (∀ q ∈ N, Qok cs q) ∧ N.length ≤ 1000 ∧ cs.length ≤ 8 ∧ cs.sum ≤ 60 ∧ most ≤ 5000 ∧ (∀ k, k ≤ cs.sum → manyN cs N k ≤ most) ∧
  ∀ H', Same H H' → Q (.int ((g cs N : Nat) : Int)) H'
theorem layer_le (cs : List Nat) (N : List (List Nat)) : ∀ k, (layerL cs N k).length ≤ manyN cs N k
  | 0 => Nat.le_refl _
  | k + 1 => by show _ ≤ manyN cs N k + (layerL cs N (k + 1)).length; omega
section
variable {P : Program} {w : World} {K : PySem.W.Frag} {mg : Str → Option Value} {base : Heap} {f : Addr} {fd : FuncData}
theorem sc_layers : FnScope ["record", "most", "counts", "firsts", "here", "many", "step"] ["record", "most"] (defScope s_layers) := ⟨rfl, rfl, rfl, by decide +kernel, rfl, by decide +kernel, by decide +kernel⟩
theorem ok_layers (T : Txt K mg) (F : FnP K "layers" "layers" s_layers [] f fd) (h_need_record : Def1 P w K mg base "need_record" ["record"] [] 2 sp_need_record) (h_firsts_of : Def1 P w K mg base "firsts_of" ["record"] [] 1 sp_firsts_of)
    (h_next_layer : Def1 P w K mg base "next_layer" ["counts", "firsts", "here"] [] 3 sp_next_layer) : FnOk P w K mg base CX0 4 f fd ["record", "most"] sp_layers := by
  refine fok F sc_layers (fun vs H Q E h => ?_) (fun cdv A outer s H vs Q E hr h => ?_)
  · obtain ⟨_, _, _, _, rfl, _⟩ := h
    rfl
  · obtain ⟨r, cs, N, most, rfl, hRec, hok, hN, h8, h60, hmost, hmany, q⟩ := h
    have hu : (A.deeper (envOfC "layers" (defScope s_layers) s.heap.objs.size f cdv)).units + 1 < cLine := by have := hr.un; omega
    refine ⟨_, (pss_cons (ps_expr (pe_cl h_need_record hr (pa_cons (pv 0) pa_nil)))
  (pss_cons (ps_set (i := 2) sc_layers.nd rfl (Or.inl rfl) (pe_ix ix_tup (pv 0) pe_int (fun _ _ => rfl)))
  (pss_cons (ps_set (i := 3) sc_layers.nd rfl (Or.inl rfl) (pe_cl h_firsts_of hr (pa_cons (pv 0) pa_nil)))
  (pss_cons (ps_set (i := 4) sc_layers.nd rfl (Or.inl rfl) (pe_disp1T hu (pe_callTy call_tuple_of (by rfl) T.n_tuple (by decide +kernel) (pa_cons (pe_op op_rep (pe_lst (pa_cons pe_int pa_nil)) (pe_callB call_len_seq (by rfl) T.n_len (by decide +kernel) (pa_cons (pv 2) pa_nil))) pa_nil)) pe_int))
  (pss_cons (ps_set (i := 5) sc_layers.nd rfl (Or.inl rfl) (pe_callB call_len_dT (by rfl) T.n_len (by decide +kernel) (pa_cons (pv 4) pa_nil)))
  (pss_cons (ps_for PassesOwn.never rfl (pi_range1 rfl T.n_range (pa_cons (pe_callB (cr_sum rfl) (by rfl) T.n_sum (by decide +kernel) (pa_cons (pv 2) pa_nil)) pa_nil)) (pg_name (i := 6) sc_layers.nd rfl (Or.inl rfl))
  (pss_one (ps_if (pt_cmpR op_le (pv 5) (pv 1) (nomark _))
  (pss_cons (ps_set (i := 4) sc_layers.nd rfl (Or.inl rfl) (pe_cl h_next_layer hr (pa_cons (pv 2) (pa_cons (pv 3) (pa_cons (pv 4) pa_nil)))))
  (pss_one (ps_aug (i := 5) sc_layers.nd rfl (Or.inl rfl) (pe_callB call_len_dT (by rfl) T.n_len (by decide +kernel) (pa_cons (pv 4) pa_nil)) ip_add)))
  pss_nil)))
  (pss_cons (ps_if (pt_cmpR op_gt (pv 5) (pv 1) (nomark _))
  (pss_one ps_never)
  pss_nil)
  (pss_one (ps_ret (pe_tup (pa_cons (pv 5) (pa_cons (pe_dget2 hu (pv 4) (pe_callTy call_tuple_of (by rfl) T.n_tuple (by decide +kernel) (pa_cons (pv 2) pa_nil)) pe_int ⟨rfl, rfl, rfl, rfl⟩) pa_nil)))))))))))), ?_⟩
    have hRec0 := hRec
    obtain ⟨c, l, hrr, hc, _⟩ := hRec0
    refine ⟨_, rfl, r, cs, N, rfl, hRec, hok, ?_⟩
    refine ⟨_, rfl, _, _, _, _, rfl, rfl, SqT.of hrr, rfl, ?_⟩
    refine ⟨_, rfl, r, cs, N, rfl, hRec, hok, hN, fun fo H3 hF ffo S3 => ?_⟩
    have hfoS : ∃ kvs, H3 fo = some (.dT kvs) := by obtain ⟨kvs, e, _⟩ := hF; exact ⟨kvs, e⟩
    obtain ⟨fkvs, hfo3⟩ := hfoS
    -- here = {tuple([0] * len(counts)): 1}
    refine fun d0 hd0 => ?_
    have Sd := Same.new (o := .dT []) hd0
    refine ⟨by show 1 ≤ sizeLine; decide, fun l0 hl0 => ?_⟩
    refine ⟨_, rfl, c, _, rfl, .inl (SqL.of (Same.new hl0 _ _ (Sd _ _ (S3 _ _ hc)))), l0, ((natsV cs).length : Int), _, rfl, rfl, upd_same, by omega, by rw [natsV_len]; omega, szw (by show 1 * (((natsV cs).length : Nat) : Int).toNat ≤ 100000; rw [natsV_len]; omega), fun z0 hz0 => ?_⟩
    have eN : (((natsV cs).length : Nat) : Int).toNat = cs.length := by rw [natsV_len]; omega
    rw [eN, natsV_zeros]
    refine ⟨z0, _, rfl, .inl ⟨SqL.of upd_same, fun b hb => ?_⟩⟩
    have S4 : Same (upd H3 d0 (.dT [])) (upd (upd (upd (upd H3 d0 (.dT [])) l0 (.lst [.int 0])) z0 (.lst (natsV (cntV [] cs.length)))) b (.tup (natsV (cntV [] cs.length)))) := (Same.new hl0).trans ((Same.new hz0).trans (Same.new hb))
    have hb4 : (upd (upd (upd (upd H3 d0 (.dT [])) l0 (.lst [.int 0])) z0 (.lst (natsV (cntV [] cs.length)))) b (.tup (natsV (cntV [] cs.length)))) b = some (.tup (natsV (cntV [] cs.length))) := upd_same
    have hd4 := S4 _ _ (upd_same (H := H3) (a := d0) (o := .dT []))
    have S34 : Same H3 (upd (upd (upd (upd H3 d0 (.dT [])) l0 (.lst [.int 0])) z0 (.lst (natsV (cntV [] cs.length)))) b (.tup (natsV (cntV [] cs.length)))) := Sd.trans S4
    generalize upd (upd (upd (upd H3 d0 (.dT [])) l0 (.lst [.int 0])) z0 (.lst (natsV (cntV [] cs.length)))) b (.tup (natsV (cntV [] cs.length))) = H4 at S4 hb4 hd4 S34
    refine ⟨keyN (cntV [] cs.length), b, rfl, by rw [keyN_kV]; exact hb4, hd4, ?_⟩
    have hd5 : (upd H4 d0 (.dT [(keyN (cntV [] cs.length), .int 1)])) d0 = some (.dT (kvsL (layerL cs N 0))) := upd_same
    have S35 : Same H3 (upd H4 d0 (.dT [(keyN (cntV [] cs.length), .int 1)])) := Same.mut S34 hd0
    generalize upd H4 d0 (.dT [(keyN (cntV [] cs.length), .int 1)]) = H5 at hd5 S35
    refine ⟨_, rfl, d0, _, rfl, hd5, ?_⟩
    refine ⟨_, rfl, c, cs.map fun i : Nat => (i : Int), rfl, by rw [← natsV_ints]; exact SqL.of (S35 _ _ (S3 _ _ hc)), ((cs.sum : Nat) : Int), by rw [sum_ints], by omega, by omega, for_range (n := cs.sum) (fun k σ H' => ∃ (d : Addr) (v6 : Option V), σ = [some (.ref r), some (.int (most : Int)), some (.ref c), some (.ref fo), some (.ref d), some (.int ((manyN cs N k : Nat) : Int)), v6] ∧ Same H3 H' ∧ LayerAt H' d (layerL cs N k) ∧ fo ≠ d)
      ⟨d0, none, rfl, S35, hd5, ne_of_none hfo3 hd0⟩ ?_ ?_⟩
    · rintro k σ H6 hk ⟨d, v6, rfl, S6, hd6, nfd⟩
      have hm := hmany k (by omega)
      have hm' : ((manyN cs N k : Nat) : Int) ≤ (most : Int) := by omega
      refine ⟨_, rfl, _, rfl, _, _, rfl, rfl, _, rfl, iteY hm' ?_⟩
      refine ⟨_, rfl, _, rfl, _, rfl, c, fo, d, cs, N, layerL cs N k, rfl, S6 _ _ (S3 _ _ hc), hF.same S6, hd6, nfd, hok, hN, h8, layerL_lens cs N k, Nat.le_trans (layer_le cs N k) (by omega), fun th H7 hth fth S7 => ?_⟩
      refine ⟨_, rfl, _, rfl, th, _, rfl, hth, _, _, rfl, rfl, ?_⟩
      have e1 : ((manyN cs N k : Nat) : Int) + (((kvsL (nextL cs N (layerL cs N k))).length : Nat) : Int) = ((manyN cs N (k + 1) : Nat) : Int) := by
        unfold kvsL
        rw [List.length_map]
        show _ = ((manyN cs N k + (layerL cs N (k + 1)).length : Nat) : Int)
        show _ = ((manyN cs N k + (nextL cs N (layerL cs N k)).length : Nat) : Int)
        omega
      simp only [e1]
      exact ⟨th, _, rfl, S6.trans S7, hth, ne_of_none (S6 _ _ hfo3) fth⟩
    · rintro σ H6 ⟨d, v6, rfl, S6, hd6, nfd⟩
      have hm := hmany cs.sum (Nat.le_refl _)
      have hm' : ¬ ((most : Nat) : Int) < ((manyN cs N cs.sum : Nat) : Int) := by omega
      refine ⟨_, rfl, _, rfl, _, _, rfl, rfl, _, rfl, iteN hm' ?_⟩
      refine ⟨_, rfl, _, rfl, d, rfl, .inr ⟨_, .inl hd6⟩, _, rfl, c, _, rfl, .inl ⟨SqL.of (S6 _ _ (S3 _ _ hc)), fun b hb => ?_⟩⟩
      have Sb := Same.new (o := .tup (natsV cs)) hb
      have hkk : (upd H6 b (.tup (natsV cs))) b = some (.tup ((keyN cs).map kV)) := by rw [keyN_kV]; exact upd_same
      refine ⟨_, DGet.t (Sb _ _ hd6) hkk, ?_⟩
      rw [kvsL_val]
      have ev : ((getA (layerL cs N cs.sum) cs).map fun n : Nat => V.int (n : Int)).getD (.int 0) = .int (((getA (layerL cs N cs.sum) cs).getD 0 : Nat) : Int) := by
        cases getA (layerL cs N cs.sum) cs <;> rfl
      rw [ev]
      refine ⟨by show 2 ≤ sizeLine; decide, fun t ht => ?_⟩
      exact q t _ upd_same (S3.trans (S6.trans (Sb.trans (Same.new ht))))
theorem sc_how_many_cuts : FnScope ["record", "most"] ["record", "most"] (defScope s_how_many_cuts) := ⟨rfl, rfl, rfl, by decide +kernel, rfl, by decide +kernel, by decide +kernel⟩
theorem ok_how_many_cuts {dvs : List V} (F : FnP K "how_many_cuts" "how_many_cuts" s_how_many_cuts dvs f fd) (h_layers : Def1 P w K mg base "layers" ["record", "most"] [] 4 sp_layers) : FnOk P w K mg base CX0 5 f fd ["record", "most"] (sp_count fun cs N => manyN cs N cs.sum) := by
  refine fok F sc_how_many_cuts (fun vs H Q E h => ?_) (fun cdv A outer s H vs Q E hr h => ?_)
  · obtain ⟨_, _, _, _, rfl, _⟩ := h
    rfl
  · obtain ⟨r, cs, N, most, rfl, hRec, hok, hN, h8, h60, hmost, hmany, q⟩ := h
    refine ⟨_, (pss_one (ps_ret (pe_ix ix_tup (pe_cl h_layers hr (pa_cons (pv 0) (pa_cons (pv 1) pa_nil))) pe_int (fun _ _ => rfl)))), ?_⟩
    exact ⟨_, rfl, _, rfl, r, cs, N, most, rfl, hRec, hok, hN, h8, h60, hmost, hmany, fun t H' ht S => ⟨_, _, _, _, rfl, rfl, SqT.of ht, rfl, q _ S⟩⟩
theorem sc_how_many_orders : FnScope ["record", "most"] ["record", "most"] (defScope s_how_many_orders) := ⟨rfl, rfl, rfl, by decide +kernel, rfl, by decide +kernel, by decide +kernel⟩
theorem ok_how_many_orders {dvs : List V} (F : FnP K "how_many_orders" "how_many_orders" s_how_many_orders dvs f fd) (h_layers : Def1 P w K mg base "layers" ["record", "most"] [] 4 sp_layers) : FnOk P w K mg base CX0 5 f fd ["record", "most"] (sp_count fun cs N => (getA (layerL cs N cs.sum) cs).getD 0) := by
  refine fok F sc_how_many_orders (fun vs H Q E h => ?_) (fun cdv A outer s H vs Q E hr h => ?_)
  · obtain ⟨_, _, _, _, rfl, _⟩ := h
    rfl
  · obtain ⟨r, cs, N, most, rfl, hRec, hok, hN, h8, h60, hmost, hmany, q⟩ := h
    refine ⟨_, (pss_one (ps_ret (pe_ix ix_tup (pe_cl h_layers hr (pa_cons (pv 0) (pa_cons (pv 1) pa_nil))) pe_int (fun _ _ => rfl)))), ?_⟩
    exact ⟨_, rfl, _, rfl, r, cs, N, most, rfl, hRec, hok, hN, h8, h60, hmost, hmany, fun t H' ht S => ⟨_, _, _, _, rfl, rfl, SqT.of ht, rfl, q _ S⟩⟩
end
end K72

set_option Elab.async false
set_option linter.all false
set_option maxRecDepth 100000
set_option maxHeartbeats 4000000
/-! len(set(xs)), any ints -/
namespace K72
open PySem PySem.Spec PyProof.Rows L2
def tLenSetA (K : PySem.W.Frag) (ta : TE) : TE := fun σ H Q => ta σ H fun x H1 => ∃ (l : Addr) (ns : List Int), x = .ref l ∧ SqL K H1 l (ns.map V.int) ∧ ns.length ≤ 4000 ∧ ∀ m : Nat, m ≤ ns.length → Q (.int (m : Nat)) H1
theorem pe_lenSetA {X : Cx} {a : Expr} {ta : TE} {p p2 q pos : Pos} (hg : Gl X "len") (hm : X.mg "len" = none) (hg2 : Gl X "set") (hm2 : X.mg "set" = none) (ha : PE X a ta) (hc : X.calm = true := by rfl)
    (na : starEach [a] X.env = (false, eval a X.env) :: starEach [] X.env := by rfl) : PE X (.Call (.Name "len" p) [.Call (.Name "set" p2) [a] [] q] [] pos) (tLenSetA X.K ta) := by
  refine ⟨fun pins s σ H Q I h => ?_⟩
  refine Call_ (ld_blt I hg hm boot_len ?_)
  refine PyProof.Rows.callWith_builtin1 (PyProof.Rows.args_cons ?_ rfl) rfl rfl
  refine Call_ (ld_blt I hg2 hm2 boot_set ?_)
  refine PyProof.Rows.callWith_type1 (PyProof.Rows.args_cons (thn (ha.run pins s σ H _ I h) fun v s1 ⟨x, H1, I1, r1, q1⟩ => PyProof.Rows.args_nil ?_) na) na rfl
  obtain ⟨l, ns, rfl, hq, hl, q1⟩ := q1
  cases r1
  obtain ⟨its, r, pl, hz⟩ := I1.list hq
  have hlen : its.toArray.size = ns.length := by rw [List.size_toArray, ← r.length, List.length_map]
  refine call_set_list (I1.ok.hd hc) pl.isList (by simpa using RZ.intsAre_vals r) (by rw [hlen]; unfold scanBound; omega) fun h' tk hS hk => ?_
  refine PyProof.Rows.args_nil ?_
  have hle := firstMet_length_le (fun i => ns.getD i 0) its.toArray.size
  rw [hlen] at hle
  obtain ⟨o, es, ep, t, ho, hex, hd, _, _, _, hf, hn⟩ := hS
  have I2 : Inv X pins σ H1 { s1 with heap := h', toks := tk } := I1.kept fun b o e => hk b o (Heap.lt_size e) e
  rw [hlen] at hn
  exact call_len_set ho hex hd hf (by rw [hn] <;> omega) ⟨.int ((firstMet (fun i => ns.getD i 0) ns.length).length : Nat), H1, I2.tok _, ⟨_, by rw [hn]⟩, q1 _ hle⟩
end K72

set_option Elab.async false
set_option linter.all false
set_option maxRecDepth 100000
set_option maxHeartbeats 4000000
/-! _law_run -/
namespace K72
open PySem PySem.Spec PyProof.Rows L2 TL
def sp_law_run : Sp := fun vs H Q _ => ∃ (v : V) (r : Addr) (p : Pg) (most : Nat), vs = [v, .ref r, .int (most : Int)] ∧ ProgAt H v p ∧ p.ok ∧ ReelAt H r ∧ most ≤ 40 ∧
  ∀ (w : List Nat) (s' : Ws) (ts : List Tc) l H', (Ws.new p).run w = some (s', ts) → w.length ≤ most → OrdAt H' l w → H l = none → Kp1 r H H' → ReelAt H' r → Q (.ref l) H'
theorem way_waits (w : Way) : decide (V.str w.txt = V.str ("waits" : Str)) = decide (w = .waits) := by
  cases w with
  | waits => rfl
  | ends => show decide (V.str ("ends" : Str) = V.str "waits") = false; decide +kernel
  | lost => show decide (V.str ("lost" : Str) = V.str "waits") = false; decide +kernel
theorem natsV_flat (l : List Nat) : (natsV l).all flatV = true := by
  unfold natsV
  rw [List.all_map]
  exact List.all_eq_true.mpr fun x _ => rfl
section
variable {P : Program} {w : World} {K : PySem.W.Frag} {mg : Str → Option Value} {base : Heap} {f : Addr} {fd : FuncData}
theorem sc__law_run : FnScope ["program", "reel", "most", "works", "order", "k", "waiting", "hand"] ["program", "reel", "most"] (defScope s__law_run) := ⟨rfl, rfl, rfl, by decide +kernel, rfl, by decide +kernel, by decide +kernel⟩
theorem ok__law_run {CW CH : Addr} (T : Txt K mg) (F : FnP K "_law_run" "_law_run" s__law_run [] f fd) (h__law_draw : Def1 P w K mg base "_law_draw" ["reel", "many"] [] 1 sp_law_draw) (h_Works : C8.Mak P w K mg base 7 "Works" CW (sp_works_init CW CH) [.non])
    (m_how : C8.Met P w K mg base 2 CW "how" (sp_how CW CH) []) (m_turn : C8.Met P w K mg base 7 CW "turn" (sp_turn CW CH) []) : FnOk P w K mg base CX0 9 f fd ["program", "reel", "most"] sp_law_run := by
  refine fok F sc__law_run (fun vs H Q E h => ?_) (fun cdv A outer s H vs Q E hr h => ?_)
  · obtain ⟨_, _, _, _, rfl, _⟩ := h
    rfl
  · obtain ⟨v, r, p, most, rfl, hP, hp, hR, h40, q⟩ := h
    have hu : (A.deeper (envOfC "_law_run" (defScope s__law_run) s.heap.objs.size f cdv)).units < cLine := by have := hr.un; omega
    refine ⟨_, (pss_cons (ps_set (i := 3) sc__law_run.nd rfl (Or.inr rfl) (C8.pe_mk h_Works hr (by decide) rfl (pa_cons (pv 0) pa_nil)))
  (pss_cons (ps_set (i := 4) sc__law_run.nd rfl (Or.inl rfl) (pe_lst pa_nil))
  (pss_cons (ps_for PassesOwn.never rfl (pi_range1 rfl T.n_range (pa_cons (pv 2) pa_nil)) (pg_name (i := 5) sc__law_run.nd rfl (Or.inl rfl))
  (pss_cons (ps_set (i := 6) sc__law_run.nd rfl (Or.inl rfl) (pe_slice sl_list (pe_lc (own := [("hand", 7)]) (g := gName 7) (tt := tTest (tOp rEq (tMeth CW "how" (sp_how CW CH) [] E0 (tVar 3) (tCons (tVar 7) tNil)) (tC (.str "waits")))) (te := tVar 7) rfl sc__law_run.nd (pi_range1 rfl T.n_range (pa_cons (pe_callB call_len_seq (by rfl) T.n_len (by decide +kernel) (pa_cons (pe_ix ix_tup (pv 0) pe_int (fun _ _ => rfl)) pa_nil)) pa_nil)) (blkOk_by (own := [("hand", 7)]) (N := ["program", "reel", "most", "works", "order", "k", "waiting", "hand"]) (sc := defScope s__law_run) (by decide +kernel)) (fun _ _ _ _ _ => (pg_name (i := 7) sc__law_run.nd rfl (Or.inl rfl))) (fun _ _ _ _ _ => pts_one (pt_cmpR op_eq (C8.pe_mt m_how hr (by decide) (pv 3) (pa_cons (pv 7) pa_nil)) pe_str (nomark _))) (fun _ _ _ _ _ => (pv 7))) po_none (po_some pe_int)))
  (pss_cons (ps_if (pt_cmpR (op_eqNil hu) (pv 6) (pe_lst pa_nil) (nomark _))
  (pss_one ps_break)
  pss_nil)
  (pss_cons (ps_set (i := 7) sc__law_run.nd rfl (Or.inl rfl) (pe_ix ix_list (pv 6) (pe_cl h__law_draw hr (pa_cons (pv 1) (pa_cons (pe_callB call_len_seq (by rfl) T.n_len (by decide +kernel) (pa_cons (pv 6) pa_nil)) pa_nil))) (fun _ _ => rfl)))
  (C8.pss_cut (ps_if (PW.pt (pw_and (pt_cmpR op_notIn_seq (pv 7) (pv 4) (by rfl)) (pw_and1 (pt_cmpR op_eq (pe_lenSetA rfl T.n_len rfl T.n_set (pv 4)) pe_int (nomark _)))))
  (pss_one (ps_set (i := 7) sc__law_run.nd rfl (Or.inl rfl) (pe_ix ix_list (pv 4) (pe_cl h__law_draw hr (pa_cons (pv 1) (pa_cons (pe_callB call_len_seq (by rfl) T.n_len (by decide +kernel) (pa_cons (pv 4) pa_nil)) pa_nil))) (fun _ _ => rfl))))
  pss_nil)
  (pss_cons (ps_if (pt_cmpR op_ne (C8.pe_mt m_how hr (by decide) (pv 3) (pa_cons (pv 7) pa_nil)) pe_str (nomark _))
  (pss_one ps_break)
  pss_nil)
  (pss_cons (ps_expr (C8.pe_mt m_turn hr (by decide) (pv 3) (pa_cons (pv 7) pa_nil)))
  (pss_one (ps_expr (pe_bm PySem.F.plainAttrs_list PySem.F.slot_list_append PySem.F.type_list_append mt_append (pv 4) (pa_cons (pv 7) pa_nil)))))))))))
  (pss_one (ps_ret (pv 4)))))), ?_⟩
    have hh2 := hp.h2
    obtain ⟨ro, hro⟩ := hR.some
    refine ⟨_, rfl, fun x dx fx fdx ndx => ?_⟩
    have S1 : Same H (upd (upd H dx (.own x)) x (.ins CW dx [])) := (Same.new fdx).trans (Same.new (by rw [upd_ne ndx.symm]; exact fx))
    refine ⟨x, dx, v, p, rfl, upd_same, hP.same S1, hp, fun ad H1 hA hfr kp1 => ⟨rfl, ?_⟩⟩
    have S2 : Same H H1 := kp1.same S1 fx
    have frH : ∀ k, k < 3 + 4 * p.hands.length → H (ad k) = none := fun k hk => S1.free (hfr k hk)
    have hn : (Ws.new p).team.length = p.hands.length := by show (p.hands.map Hn.new).length = _; rw [List.length_map]
    have nra : ∀ k, k < 3 + 4 * p.hands.length → r ≠ ad k := fun k hk => ne_of_none hro (frH k hk)
    have nrx : r ≠ x := ne_of_none hro fx
    refine ⟨by show 0 ≤ sizeLine; decide, fun l hl => ?_⟩
    have flH : H l = none := S2.free hl
    have nlr : l ≠ r := (ne_of_none hro flH).symm
    have nla : ∀ k, k < 3 + 4 * p.hands.length → l ≠ ad k := fun k hk => by
      obtain ⟨u, e, _⟩ := hA.some (k := k) (by omega)
      exact (ne_of_none e hl).symm
    have nlx : l ≠ x := by
      obtain ⟨d, e⟩ := hA.ins
      exact (ne_of_none e hl).symm
    have Sl := Same.new (o := .lst []) hl
    obtain ⟨tp, hl0, ls0, ev, htp, hHs⟩ := hP
    subst ev
    have hR1 : ReelAt (upd H1 l (.lst [])) r := hR.keep fun o e => Sl _ _ (S2 _ _ e)
    -- the loop
    refine ⟨_, rfl, (most : Int), rfl, by omega, by omega, ?_⟩
    rw [show ((most : Int)).toNat = most by omega]
    refine for_range (n := most) (fun i σ H' => ∃ (v5 v6 v7 : Option V) (wd : List Nat) (s1 : Ws) (ts : List Tc), σ = [some (.ref tp), some (.ref r), some (.int (most : Int)), some (.ref x), some (.ref l), v5, v6, v7] ∧
        (Ws.new p).run wd = some (s1, ts) ∧ WorksAt CW CH H' x ad s1 ∧ OrdAt H' l wd ∧ wd.length ≤ i ∧ ReelAt H' r ∧ Kp1 r H H')
      ⟨none, none, none, [], Ws.new p, [], rfl, rfl, hA.same Sl, upd_same, Nat.le_refl _, hR1, Kp1.of (S2.trans Sl)⟩ ?_ ?_
    · rintro i σ H2 hi ⟨v5, v6, v7, wd, s1, ts, rfl, hrun, hA2, hO, hwl, hR2, k2⟩
      obtain ⟨ok1, past1, len1, mem1, _, tl1⟩ := Ws.run_ok (Ws.new_ok hp) hrun
      have tn : s1.team.length = p.hands.length := by rw [tl1, hn]
      have past0 : s1.past = wd := past1
      have fin : ∀ σ H', (∃ (v5 v6 v7 : Option V) (wd : List Nat) (s1 : Ws) (ts : List Tc), σ = [some (.ref tp), some (.ref r), some (.int (most : Int)), some (.ref x), some (.ref l), v5, v6, v7] ∧
        (Ws.new p).run wd = some (s1, ts) ∧ WorksAt CW CH H' x ad s1 ∧ OrdAt H' l wd ∧ wd.length ≤ most ∧ ReelAt H' r ∧ Kp1 r H H') → tRet (tVar 4) { nx := fun _ H' => Q .non H', rt := Q } σ H' := by
        rintro σ H' ⟨v5, v6, v7, wd, s1, ts, rfl, a1, a2, a3, a4, a5, a6⟩
        exact ⟨_, rfl, q wd s1 ts l H' a1 a4 a3 flH a6 a5⟩
      -- waiting
      have htp2 := k2 _ _ htp (fun e => by rw [e] at htp; obtain ⟨a, b, e2, _⟩ := hR; rw [e2] at htp; cases htp)
      have hhs2 := k2 _ _ hHs.top (fun e => by
        obtain ⟨a, b, e2, _⟩ := hR
        have e3 := hHs.top
        rw [e, e2] at e3
        have e4 : [V.int a, V.int b] = ls0.map V.ref := by injection e3 with e3; injection e3
        cases ls0 with
        | nil => cases e4
        | cons c cs => cases e4)
      refine ⟨_, rfl, _, _, _, _, rfl, rfl, SqT.of htp2, rfl, hl0, _, rfl, .inl (SqL.of hhs2), ((p.hands.length : Nat) : Int), by rw [List.length_map, hHs.len], by omega, by omega, fun D hD => ?_⟩
      have fDk : ∀ k, k < 3 + 4 * p.hands.length → D ≠ ad k := fun k hk => by
        obtain ⟨u, e, _⟩ := hA2.some (k := k) (by omega)
        exact (ne_of_none e hD).symm
      refine lc_it (walk_range (n := p.hands.length)) (fun j H' => Same H2 H' ∧ ∃ wl : List Nat, H' D = some (.lst (natsV wl)) ∧ wl.length ≤ j ∧ ∀ h ∈ wl, h < p.hands.length) ⟨Same.new hD, [], upd_same, Nat.le_refl _, fun h m => (by cases m)⟩ (fun _ _ _ _ => trivial) ?_ ?_
      · rintro j y H3 H4 hj ⟨S3, wl, hD3, hwl3, hm3⟩ ⟨rfl, rfl⟩
        simp only [Int.zero_add]
        obtain ⟨h, eh⟩ : ∃ h, s1.team[j]? = some h := ⟨_, List.getElem?_eq_getElem (by omega)⟩
        have hA3 := hA2.same S3
        obtain ⟨dx3, hx3⟩ := hA3.ins
        refine ⟨rfl, _, rfl, x, dx3, _, rfl, hx3, wfs_how, _, rfl, x, ad, s1, j, h, rfl, hA3, eh, rfl, _, rfl, ?_⟩
        rw [way_waits]
        by_cases hw : h.way = .waits
        · refine iteY hw ?_
          refine ⟨_, rfl, _, hD3, Nat.lt_of_le_of_lt (by rw [natsV_len]; omega : _ ≤ 8) (by decide), Same.mut S3 hD, wl ++ [j], ?_, by rw [List.length_append]; exact Nat.succ_le_succ hwl3, fun g hg => ?_⟩
          · rw [upd_same, natsV_snoc]
          · rcases List.mem_append.mp hg with hg | hg
            · exact hm3 g hg
            · rw [List.mem_singleton.mp hg]; exact hj
        · refine iteN hw ?_
          exact ⟨S3, wl, hD3, by omega, hm3⟩
      rintro H3 ⟨S3, wl, hD3, hwl3, hm3⟩
      refine ⟨_, rfl, D, _, rfl, SqL.of hD3, fun D2 hD2 => ?_⟩
      have nD2r : D2 ≠ r := (hR2.keep fun o e => S3 _ _ e).ne hD2
      have ecut : cutV (natsV wl) none (some 4) = natsV (wl.take 4) := by
        unfold cutV
        have e1 : HT.sIx (natsV wl).length 0 none = 0 := rfl
        have e2 : HT.sIx (natsV wl).length (natsV wl).length (some 4) = min 4 wl.length := by
          have := HT.sIx_nat (natsV wl).length (natsV wl).length 4
          rw [natsV_len] at this
          rw [natsV_len]
          exact this
        rw [e1, e2]
        unfold natsV
        rw [List.drop_zero, Nat.sub_zero, ← List.map_take]
        congr 1
        by_cases z : 4 ≤ wl.length
        · rw [Nat.min_eq_left z]
        · rw [Nat.min_eq_right (by omega), List.take_of_length_le (Nat.le_refl _), List.take_of_length_le (by omega)]
      rw [ecut]
      have S4 := S3.trans (Same.new (o := .lst (natsV (wl.take 4))) hD2)
      have hW4 : (upd H3 D2 (.lst (natsV (wl.take 4)))) D2 = some (.lst (natsV (wl.take 4))) := upd_same
      have hm4 : ∀ h ∈ wl.take 4, h < p.hands.length := fun h m => hm3 h (List.mem_of_mem_take m)
      have hl4 : (wl.take 4).length ≤ 8 := by rw [List.length_take]; omega
      generalize wl.take 4 = wt at hW4 hm4 hl4 S4
      generalize upd H3 D2 (.lst (natsV wt)) = H4 at hW4 S4
      -- if waiting == []
      refine ⟨_, rfl, by show 0 ≤ sizeLine; decide, fun e0 he0 => ?_⟩
      have S5 := S4.trans (Same.new (o := .lst []) he0)
      have hW5 := Same.new (o := .lst []) he0 _ _ hW4
      refine ⟨D2, e0, _, rfl, rfl, SqL.of hW5, SqL.of upd_same, _, rfl, ?_⟩
      generalize upd H4 e0 (.lst []) = H5 at S5 hW5
      have hR5 : ReelAt H5 r := hR2.keep fun o e => S5 _ _ e
      have hA5 := hA2.same S5
      have hO5 : OrdAt H5 l wd := S5 _ _ hO
      have k5 : Kp1 r H H5 := k2.trans (Kp1.of S5)
      cases wt with
      | nil =>
        refine iteT ?_
        exact fin _ _ ⟨_, _, _, wd, s1, ts, rfl, hrun, hA5, hO5, by omega, hR5, k5⟩
      | cons w0 wt =>
        refine iteF ?_
        -- hand = waiting[draw]
        have hwn : (natsV (w0 :: wt)).length = (w0 :: wt).length := natsV_len _
        refine ⟨_, rfl, _, rfl, _, rfl, _, _, rfl, .inl (SqL.of hW5), r, (((natsV (w0 :: wt)).length : Nat) : Int), rfl, hR5, by rw [hwn]; show (0 : Int) < ((wt.length + 1 : Nat) : Int); omega, by rw [hwn]; omega, fun d H6 hd6 hR6 k6 => ?_⟩
        rw [hwn] at hd6
        have hdl : d < (w0 :: wt).length := by omega
        have hW6 := k6 _ _ hW5 nD2r
        have ewd : (natsV (w0 :: wt))[d]? = some (.int (((w0 :: wt)[d] : Nat) : Int)) := natsV_at hdl
        have reelTS : ∀ {H7 H8 : Hp}, ReelAt H7 r → Kp1 r H7 H8 → TS H7 H8 := fun hr k => by
          obtain ⟨a, b, e, _⟩ := hr
          exact TS.kp k e (fun xs z => by cases z)
        have wkeep : ∀ {H7 H8 : Hp} {s2 : Ws}, s2.team.length = p.hands.length → WorksAt CW CH H7 x ad s2 → ReelAt H7 r → Kp1 r H7 H8 → WorksAt CW CH H8 x ad s2 := fun {H7 H8 s2} e7 hA7 hr7 k => hA7.keep (fun q o e h => k q o e (by
          rcases h with rfl | ⟨k, hk, rfl⟩
          · exact nrx.symm
          · exact (nra k (by omega)).symm)) (reelTS hr7 k)
        have hA6 := wkeep tn hA5 hR5 k6
        have hO6 : OrdAt H6 l wd := k6 _ _ hO5 nlr
        have hg := hm4 _ (List.getElem_mem hdl)
        refine ⟨_, _, _, _, rfl, rfl, SqL.of hW6, atI_nat ewd, ?_⟩
        generalize (w0 :: wt)[d] = g at hg
        -- hand not in order and len(set(order)) == 4
        refine ⟨fun σ' H' => ∃ g : Nat, g < p.hands.length ∧ σ' = [some (.ref tp), some (.ref r), some (.int (most : Int)), some (.ref x), some (.ref l), some (.int (0 + (i : Int))), some (.ref D2), some (.int (g : Int))] ∧ WorksAt CW CH H' x ad s1 ∧ OrdAt H' l wd ∧ ReelAt H' r ∧ Kp1 r H H', ?_, ?_⟩
        · refine ⟨_, rfl, _, rfl, l, _, rfl, .inl (SqL.of hO6), rfl, natsV_flat wd, _, rfl, ?_⟩
          have stay : ∃ g' : Nat, g' < p.hands.length ∧ [some (V.ref tp), some (.ref r), some (.int (most : Int)), some (.ref x), some (.ref l), some (.int (0 + (i : Int))), some (.ref D2), some (.int (g : Int))] = [some (.ref tp), some (.ref r), some (.int (most : Int)), some (.ref x), some (.ref l), some (.int (0 + (i : Int))), some (.ref D2), some (.int (g' : Int))] ∧ WorksAt CW CH H6 x ad s1 ∧ OrdAt H6 l wd ∧ ReelAt H6 r ∧ Kp1 r H H6 :=
            ⟨g, hg, rfl, hA6, hO6, hR6, k5.trans k6⟩
          refine ite2 (fun _ => ?_) (fun _ => stay)
          refine ⟨_, rfl, l, wd.map fun i : Nat => (i : Int), rfl, by rw [← natsV_ints]; exact SqL.of hO6, by rw [List.length_map]; omega, fun m hm => ?_⟩
          rw [List.length_map] at hm
          refine ⟨rfl, _, rfl, ite2 (fun h4 => ?_) (fun _ => stay)⟩
          have hm4' : m = 4 := by
            have := of_decide_eq_true h4
            have := V.int.inj this
            omega
          refine ⟨_, rfl, _, rfl, _, rfl, _, _, rfl, .inl (SqL.of hO6), r, (((natsV wd).length : Nat) : Int), rfl, hR6, by rw [natsV_len]; omega, by rw [natsV_len]; omega, fun d' H7 hd7 hR7 k7 => ?_⟩
          rw [natsV_len] at hd7
          have hd7' : d' < wd.length := by omega
          exact ⟨_, _, _, _, rfl, rfl, SqL.of (k7 _ _ hO6 nlr), atI_nat (natsV_at hd7'), wd[d'], mem1 _ (List.getElem_mem hd7'), rfl, wkeep tn hA6 hR6 k7, k7 _ _ hO6 nlr, hR7, (k5.trans k6).trans k7⟩
        · rintro σ' H7 ⟨g, hg, rfl, hA7, hO7, hR7, k7⟩
          obtain ⟨h, eh⟩ : ∃ h, s1.team[g]? = some h := ⟨_, List.getElem?_eq_getElem (by omega)⟩
          obtain ⟨dx7, hx7⟩ := hA7.ins
          refine ⟨_, rfl, x, dx7, _, rfl, hx7, wfs_how, _, rfl, x, ad, s1, g, h, rfl, hA7, eh, rfl, _, rfl, ?_⟩
          rw [way_waits]
          by_cases hw : h.way = .waits
          · refine iteNS hw ?_
            obtain ⟨s2, t, et⟩ : ∃ s2 t, s1.turn g = some (s2, t) := ⟨_, _, Ws.turn_of eh hw⟩
            refine ⟨_, rfl, x, dx7, _, rfl, hx7, wfs_turn, _, rfl, x, ad, s1, s2, t, g, p, rfl, hA7, ok1, et, by rw [past0]; omega, fun tt H8 hA8 htt ftt kp8 => ?_⟩
            rw [tn] at kp8
            have hO8 : OrdAt H8 l wd := kp8 _ _ hO7 nla
            have hR8 : ReelAt H8 r := hR7.keep fun o e => kp8 _ _ e nra
            have k8 : Kp1 r H H8 := fun q o e n => kp8 _ _ (k7 q o e n) (fun k hk => ne_of_none e (frH k hk))
            refine ⟨_, rfl, .inl ⟨rfl, _, SqL.of hO8⟩, _, rfl, l, _, _, rfl, rfl, hO8, Nat.lt_of_le_of_lt (by rw [natsV_len]; omega : _ ≤ 40) (by decide), ?_⟩
            rw [natsV_snoc]
            have tsl := TS.upd (u := .lst (natsV (wd ++ [g]))) hO8 (fun xs e => by cases e)
            have tn2 : s2.team.length = p.hands.length := by rw [← tn]; obtain ⟨_, _, _, _, es⟩ := Ws.turn_some et; rw [es]; exact List.length_set
            refine ⟨_, _, _, wd ++ [g], s2, ts ++ [t], rfl, Ws.run_app hrun (Ws.run_of et rfl), hA8.keep (fun q o e hq => ?_) tsl, upd_same, by rw [List.length_append]; exact Nat.succ_le_succ hwl, hR8.keep fun o e => (upd_ne nlr.symm).trans e, fun q o e n => ?_⟩
            · have : q ≠ l := by
                rcases hq with rfl | ⟨k, hk, rfl⟩
                · exact nlx.symm
                · exact (nla k (by omega)).symm
              rw [upd_ne this]
              exact e
            · rw [upd_ne (ne_of_none e flH)]
              exact k8 q o e n
          · refine iteNY hw ?_
            exact fin _ _ ⟨_, _, _, wd, s1, ts, rfl, hrun, hA7, hO7, by omega, hR7, k7⟩
    · rintro σ H2 ⟨v5, v6, v7, wd, s1, ts, rfl, a1, a2, a3, a4, a5, a6⟩
      exact ⟨_, rfl, q wd s1 ts l H2 a1 a4 a3 flH a6 a5⟩
end
end K72

set_option Elab.async false
set_option linter.all false
set_option maxRecDepth 100000
set_option maxHeartbeats 4000000
/-! _law_orders -/
namespace K72
open PySem PySem.Spec PyProof.Rows L2 TL
def extO (cs o : List Nat) : List (List Nat) := ((List.range cs.length).filter fun h => decide (o.count h < cs.getD h 0)).map fun h => o ++ [h]
def ordersN (cs : List Nat) : Nat → List (List Nat)
  | 0 => [[]]
  | k + 1 => (ordersN cs k).flatMap (extO cs)
theorem extO_len (cs o : List Nat) : (extO cs o).length ≤ cs.length := by
  unfold extO
  rw [List.length_map]
  exact Nat.le_trans (List.length_filter_le _ _) (by rw [List.length_range] <;> exact Nat.le_refl _)
theorem flat_len {α β : Type} (f : α → List β) (c : Nat) (h : ∀ x, (f x).length ≤ c) : ∀ l : List α, (l.flatMap f).length ≤ l.length * c
  | [] => Nat.zero_le _
  | x :: l => by
    rw [List.flatMap_cons, List.length_append, List.length_cons, Nat.succ_mul]
    have := flat_len f c h l
    have := h x
    omega
theorem ordersN_len {cs : List Nat} (h8 : cs.length ≤ 8) : ∀ k, (ordersN cs k).length ≤ 8 ^ k
  | 0 => Nat.le_refl _
  | k + 1 => by
    show ((ordersN cs k).flatMap (extO cs)).length ≤ _
    refine Nat.le_trans (flat_len _ 8 (fun o => Nat.le_trans (extO_len cs o) h8) _) ?_
    rw [Nat.pow_succ]
    exact Nat.mul_le_mul_right 8 (ordersN_len h8 k)
theorem ordersN_word {cs : List Nat} : ∀ k, ∀ o ∈ ordersN cs k, o.length = k
  | 0 => fun o h => by rw [List.mem_singleton.mp h]; rfl
  | k + 1 => fun o h => by
    obtain ⟨o', h1, h2⟩ := List.mem_flatMap.mp h
    obtain ⟨g, _, rfl⟩ := List.mem_map.mp h2
    rw [List.length_append, ordersN_word k o' h1]
    rfl
theorem count_int (l : List Nat) (i : Nat) : (l.map fun i : Nat => (i : Int)).count ((i : Nat) : Int) = l.count i := by
  induction l with
  | nil => rfl
  | cons a l ih =>
    rw [List.map_cons, List.count_cons, List.count_cons, ih]
    congr 1
    by_cases z : a = i
    · subst z; simp
    · have z2 : ¬ (a : Int) = (i : Int) := fun k => z (by omega)
      simp [z, z2]
structure VA (H : Hp) (b : Addr) (ls : List Addr) (vss : List (List Nat)) : Prop where
  top : H b = some (.lst (ls.map V.ref))
  len : ls.length = vss.length
  each : ∀ (i : Nat) l v, ls[i]? = some l → vss[i]? = some v → H l = some (.lst (natsV v))
  ne : ∀ l ∈ ls, l ≠ b
theorem VA.out {H : Hp} {b : Addr} {ls : List Addr} {vss : List (List Nat)} (k : VA H b ls vss) : VecsAt H b vss := ⟨ls, k.top, k.len, k.each⟩
theorem VA.same {H H' : Hp} {b : Addr} {ls : List Addr} {vss : List (List Nat)} (s : Same H H') (k : VA H b ls vss) : VA H' b ls vss := ⟨s _ _ k.top, k.len, fun i l v h1 h2 => s _ _ (k.each i l v h1 h2), k.ne⟩
theorem VA.push {H : Hp} {b z : Addr} {ls : List Addr} {vss : List (List Nat)} {v : List Nat} (k : VA H b ls vss) (hz : H z = some (.lst (natsV v))) (hzb : z ≠ b) : VA (upd H b (.lst (ls.map V.ref ++ [.ref z]))) b (ls ++ [z]) (vss ++ [v]) := by
  refine ⟨by rw [upd_same, List.map_append] <;> rfl, by rw [List.length_append, List.length_append, k.len] <;> rfl, fun i l u h1 h2 => ?_, fun l hl => ?_⟩
  · have hkl := k.len
    by_cases hi : i < ls.length
    · rw [List.getElem?_append_left hi] at h1
      rw [List.getElem?_append_left (by omega)] at h2
      rw [upd_ne (k.ne l (List.mem_of_getElem? h1))]
      exact k.each i l u h1 h2
    · rw [List.getElem?_append_right (by omega)] at h1
      rw [List.getElem?_append_right (by omega)] at h2
      have e : i - ls.length = 0 := by
        cases hn : i - ls.length with
        | zero => rfl
        | succ n => rw [hn] at h1; simp at h1
      rw [e] at h1
      rw [show i - vss.length = 0 by omega] at h2
      simp only [List.getElem?_cons_zero, Option.some.injEq] at h1 h2
      subst h1 h2
      rw [upd_ne hzb]
      exact hz
  · rcases List.mem_append.mp hl with hl | hl
    · exact k.ne l hl
    · rw [List.mem_singleton.mp hl]; exact hzb
/-- .., all new since H0 -/
def VecsF (H0 H : Hp) (a : Addr) (vss : List (List Nat)) : Prop := ∃ ls : List Addr, H a = some (.lst (ls.map V.ref)) ∧ ls.length = vss.length ∧ (∀ (i : Nat) l v, ls[i]? = some l → vss[i]? = some v → H l = some (.lst (natsV v))) ∧ H0 a = none ∧ ∀ l ∈ ls, H0 l = none
def sp_law_orders : Sp := fun vs H Q _ => ∃ (c : Addr) (cs : List Nat), vs = [.ref c] ∧ H c = some (.lst (natsV cs)) ∧ cs.length ≤ 8 ∧ cs.sum ≤ 7 ∧ ∀ l H', VecsF H H' l (ordersN cs cs.sum) → Same H H' → Q (.ref l) H'
section
variable {P : Program} {w : World} {K : PySem.W.Frag} {mg : Str → Option Value} {base : Heap} {f : Addr} {fd : FuncData}
theorem sc__law_orders : FnScope ["counts", "found", "k", "longer", "order", "hand"] ["counts"] (defScope s__law_orders) := ⟨rfl, rfl, rfl, by decide +kernel, rfl, by decide +kernel, by decide +kernel⟩
theorem ok__law_orders (T : Txt K mg) (F : FnP K "_law_orders" "_law_orders" s__law_orders [] f fd) : FnOk P w K mg base CX0 1 f fd ["counts"] sp_law_orders := by
  refine fok F sc__law_orders (fun vs H Q E h => ?_) (fun cdv A outer s H vs Q E hr h => ?_)
  · obtain ⟨_, _, rfl, _⟩ := h
    rfl
  · obtain ⟨c, cs, rfl, hc, h8, h7, q⟩ := h
    refine ⟨_, (pss_cons (ps_set (i := 1) sc__law_orders.nd rfl (Or.inl rfl) (pe_lst (pa_cons (pe_lst pa_nil) pa_nil)))
  (pss_cons (ps_for PassesOwn.never rfl (pi_range1 rfl T.n_range (pa_cons (pe_callB (cr_sum rfl) (by rfl) T.n_sum (by decide +kernel) (pa_cons (pv 0) pa_nil)) pa_nil)) (pg_name (i := 2) sc__law_orders.nd rfl (Or.inl rfl))
  (pss_cons (ps_set (i := 3) sc__law_orders.nd rfl (Or.inl rfl) (pe_lst pa_nil))
  (pss_cons (ps_for PassesOwn.never rfl (pi_list (pv 1)) (pg_name (i := 4) sc__law_orders.nd rfl (Or.inl rfl))
  (pss_one (ps_for PassesOwn.never rfl (pi_range1 rfl T.n_range (pa_cons (pe_callB call_len_seq (by rfl) T.n_len (by decide +kernel) (pa_cons (pv 0) pa_nil)) pa_nil)) (pg_name (i := 5) sc__law_orders.nd rfl (Or.inl rfl))
  (pss_one (ps_if (pt_cmpR op_lt (pe_bm PySem.F.plainAttrs_list PySem.F.slot_list_count PySem.F.type_list_count mt_lcount (pv 4) (pa_cons (pv 5) pa_nil)) (pe_ix ix_list (pv 0) (pv 5) (fun _ _ => rfl)) (nomark _))
  (pss_one (ps_expr (pe_bm PySem.F.plainAttrs_list PySem.F.slot_list_append PySem.F.type_list_append mt_append (pv 3) (pa_cons (pe_op op_cat (pv 4) (pe_lst (pa_cons (pv 5) pa_nil))) pa_nil))))
  pss_nil)))))
  (pss_one (ps_set (i := 1) sc__law_orders.nd rfl (Or.inl rfl) (pv 3))))))
  (pss_one (ps_ret (pv 1))))), ?_⟩
    refine ⟨by show 0 ≤ sizeLine; decide, fun e0 he0 => ⟨by show 1 ≤ sizeLine; decide, fun a0 ha0 => ?_⟩⟩
    have S1 := (Same.new (o := .lst []) he0).trans (Same.new (o := .lst [.ref e0]) ha0)
    have nea : e0 ≠ a0 := ne_of_none upd_same ha0
    have hv0 : VecsF H (upd (upd H e0 (.lst [])) a0 (.lst [.ref e0])) a0 (ordersN cs 0) := ⟨[e0], upd_same, rfl, (fun i l v h1 h2 => by
      cases i with
      | zero =>
        simp only [ordersN, List.getElem?_cons_zero, Option.some.injEq] at h1 h2
        rw [← h1, ← h2, upd_ne nea, upd_same]
        rfl
      | succ i => simp at h1), (Same.new he0).free ha0, fun l hl => by rw [List.mem_singleton.mp hl]; exact he0⟩
    refine ⟨_, rfl, c, cs.map fun i : Nat => (i : Int), rfl, by rw [← natsV_ints]; exact SqL.of (S1 _ _ hc), ((cs.sum : Nat) : Int), by rw [sum_ints], by omega, by omega, for_range (n := cs.sum) (fun k σ H' => ∃ (a : Addr) (v2 v3 v4 v5 : Option V), σ = [some (.ref c), some (.ref a), v2, v3, v4, v5] ∧ Same H H' ∧ VecsF H H' a (ordersN cs k))
      ⟨a0, none, none, none, none, rfl, S1, hv0⟩ ?_ ?_⟩
    · rintro k σ H2 hk ⟨a, v2, v3, v4, v5, rfl, S2, hV⟩
      refine ⟨by show 0 ≤ sizeLine; decide, fun b hb => ?_⟩
      have fb := S2.free hb
      obtain ⟨ls, hls, hll, hle, _, _⟩ := hV
      have nab : a ≠ b := ne_of_none hls hb
      have Sb := Same.new (o := .lst []) hb
      have hlen := ordersN_len h8 k
      have h6 : 8 ^ k ≤ 8 ^ 6 := Nat.pow_le_pow_right (by decide) (by omega)
      refine ⟨_, rfl, a, rfl, ⟨_, SqL.of (Sb _ _ hls)⟩, for_it (walk_list (xs := ls.map V.ref)) (fun i σ H' => ∃ (v4 v5 : Option V) (ms : List Addr), σ = [some (.ref c), some (.ref a), some (.int (0 + (k : Int))), some (.ref b), v4, v5] ∧ Same H2 H' ∧ VA H' b ms (((ordersN cs k).take i).flatMap (extO cs)) ∧ ∀ l ∈ ms, H l = none)
        ⟨_, _, [], rfl, Sb, ⟨upd_same, rfl, (fun i l v h => by simp at h), fun l h => (by cases h)⟩, fun l h => (by cases h)⟩ (fun i σ H' _ ⟨_, _, _, _, S, _⟩ => SqL.of (S _ _ hls)) ?_ ?_⟩
      · rintro i y σ H3 H4 hi ⟨v4, v5, ms, rfl, S3, hVA, hfr⟩ ⟨rfl, hy⟩
        rw [List.length_map] at hi
        obtain ⟨l, el, rfl⟩ := ls_at hy
        obtain ⟨o, eo⟩ := some_of_lt el hll
        have hlo := hle i l o el eo
        have hol := ordersN_word k o (List.mem_of_getElem? eo)
        have eti : (ordersN cs k).take (i + 1) = (ordersN cs k).take i ++ [o] := by rw [List.take_succ, eo] <;> rfl
        have hil : (((ordersN cs k).take i).flatMap (extO cs)).length ≤ 8 ^ 6 * 8 := by
          refine Nat.le_trans (flat_len _ 8 (fun o => Nat.le_trans (extO_len cs o) h8) _) ?_
          rw [List.length_take]
          exact Nat.mul_le_mul_right 8 (Nat.le_trans (Nat.min_le_right _ _) (Nat.le_trans hlen h6))
        refine ⟨_, rfl, c, _, rfl, .inl (SqL.of (S3 _ _ (S2 _ _ hc))), ((cs.length : Nat) : Int), by rw [natsV_len], by omega, by omega, for_range (n := cs.length) (fun j σ H' => ∃ (v5 : Option V) (ms : List Addr), σ = [some (.ref c), some (.ref a), some (.int (0 + (k : Int))), some (.ref b), some (.ref l), v5] ∧ Same H2 H' ∧
            VA H' b ms (((ordersN cs k).take i).flatMap (extO cs) ++ ((List.range j).filter fun h => decide (o.count h < cs.getD h 0)).map fun h => o ++ [h]) ∧ ∀ l ∈ ms, H l = none)
          ⟨_, ms, rfl, S3, by simpa using hVA, hfr⟩ ?_ ?_⟩
        · rintro j σ H5 hj ⟨v5, ms, rfl, S5, hVA5, hfr5⟩
          simp only [Int.zero_add]
          have hlo5 := S5 _ _ hlo
          have hc5 := S5 _ _ (S2 _ _ hc)
          refine ⟨_, rfl, .inl ⟨rfl, _, SqL.of hlo5⟩, _, rfl, l, o.map fun i : Nat => (i : Int), (j : Int), rfl, rfl, by rw [← natsV_ints]; exact SqL.of hlo5, ?_⟩
          rw [count_int]
          refine ⟨_, rfl, _, rfl, _, _, _, _, rfl, rfl, SqL.of hc5, natsV_ix (getD_at hj), _, _, rfl, rfl, _, rfl, ?_⟩
          have er : (List.range (j + 1)).filter (fun h => decide (o.count h < cs.getD h 0)) = (List.range j).filter (fun h => decide (o.count h < cs.getD h 0)) ++ if o.count j < cs.getD j 0 then [j] else [] := by
            rw [List.range_succ, List.filter_append]
            congr 1
            by_cases z : o.count j < cs.getD j 0
            · rw [if_pos z, filter_one, if_pos (decide_eq_true z)]
            · rw [if_neg z, filter_one, if_neg (fun k => z (of_decide_eq_true k))]
          rw [er]
          by_cases z : o.count j < cs.getD j 0
          · have z' : ((o.count j : Nat) : Int) < ((cs.getD j 0 : Nat) : Int) := by omega
            refine iteY z' ?_
            rw [if_pos z]
            refine ⟨_, rfl, .inl ⟨rfl, _, SqL.of hVA5.top⟩, _, rfl, _, rfl, by show 1 ≤ sizeLine; decide, fun g hg => ?_⟩
            have Sg := Same.new (o := .lst [.int (j : Int)]) hg
            refine ⟨l, g, _, _, rfl, rfl, Sg _ _ hlo5, upd_same, szw (by rw [natsV_len]; show _ + 1 ≤ 100000; omega), fun z hz => ?_⟩
            rw [show natsV o ++ [V.int (j : Int)] = natsV (o ++ [j]) from natsV_snoc o j]
            have Sz := Same.new (o := .lst (natsV (o ++ [j]))) hz
            have hVz := (hVA5.same Sg).same Sz
            have nzb : z ≠ b := (ne_of_none (Sg _ _ hVA5.top) hz).symm
            have hml : (ms.map V.ref).length < sizeLine := by
              refine Nat.lt_of_le_of_lt (?_ : _ ≤ 8 ^ 6 * 8 + 8) (by decide)
              rw [List.length_map, hVA5.len, List.length_append, List.length_map]
              have := List.length_filter_le (fun h => decide (o.count h < cs.getD h 0)) (List.range j)
              rw [List.length_range] at this
              omega
            refine ⟨b, _, _, rfl, rfl, hVz.top, hml, ?_⟩
            refine ⟨_, ms ++ [z], rfl, Same.mut (S5.trans (Sg.trans Sz)) hb, ?_, fun l hl => (List.mem_append.mp hl).elim (hfr5 l) fun hl => by rw [List.mem_singleton.mp hl]; exact (S2.trans (S5.trans Sg)).free hz⟩
            have := hVz.push upd_same nzb
            rw [List.map_append, ← List.append_assoc]
            exact this
          · have z' : ¬ ((o.count j : Nat) : Int) < ((cs.getD j 0 : Nat) : Int) := by omega
            refine iteN z' ?_
            rw [if_neg z, List.append_nil]
            exact ⟨_, ms, rfl, S5, hVA5, hfr5⟩
        · rintro σ H5 ⟨v5, ms, rfl, S5, hVA5, hfr5⟩
          refine ⟨_, _, ms, rfl, S5, ?_, hfr5⟩
          rw [eti, List.flatMap_append, List.flatMap_cons, List.flatMap_nil, List.append_nil]
          exact hVA5
      · rintro σ H3 ⟨v4, v5, ms, rfl, S3, hVA, hfr⟩
        rw [List.length_map, hll, List.take_length] at hVA
        exact ⟨_, rfl, b, _, _, _, _, rfl, S2.trans S3, ms, hVA.top, hVA.len, hVA.each, fb, hfr⟩
    · rintro σ H2 ⟨a, v2, v3, v4, v5, rfl, S2, hV⟩
      exact ⟨_, rfl, q a H2 hV S2⟩
end
end K72

set_option Elab.async false
set_option linter.all false
set_option maxRecDepth 100000
set_option maxHeartbeats 4000000
/-! _law_places -/
namespace K72
open PySem PySem.Spec PyProof.Rows L2 TL
def placesOf (W : List Tw) (i h : Nat) : List Nat := (List.range i).filter fun j => hand W j == h
def placeAt (W : List Tw) (w : List Nat) (s : Nat) : Nat := (placesOf W W.length (w.getD s 0)).getD ((w.take s).count (w.getD s 0)) 0
def places (W : List Tw) (w : List Nat) : List Nat := (List.range w.length).map (placeAt W w)
theorem placesOf_succ (W : List Tw) (i h : Nat) : placesOf W (i + 1) h = placesOf W i h ++ if hand W i = h then [i] else [] := by
  unfold placesOf
  rw [List.range_succ, List.filter_append, filter_one]
  congr 1
  by_cases z : hand W i = h
  · rw [if_pos z, if_pos (beq_iff_eq.mpr z)]
  · rw [if_neg z, if_neg (fun k => z (beq_iff_eq.mp k))]
theorem placesOf_le (W : List Tw) (i h : Nat) : (placesOf W i h).length ≤ i := by
  unfold placesOf
  exact Nat.le_trans (List.length_filter_le _ _) (by rw [List.length_range] <;> exact Nat.le_refl _)
theorem drop_cons {l : List Nat} {i : Nat} (h : i < l.length) : l.drop i = l.getD i 0 :: l.drop (i + 1) := by
  rw [List.drop_eq_getElem_cons h, List.getD_eq_getElem?_getD, List.getElem?_eq_getElem h] <;> rfl
def sp_law_places : Sp := fun vs H Q _ => ∃ (a o : Addr) (W : List Tw) (wd : List Nat), vs = [.ref a, .ref o] ∧ WebAt H a W ∧ OrdAt H o wd ∧ W.length ≤ 50 ∧ wd.length ≤ 50 ∧ (∀ t, t < wd.length → (wd.take t).count (wd.getD t 0) < (placesOf W W.length (wd.getD t 0)).length) ∧
  ∀ l H', OrdAt H' l (places W wd) → Same H H' → Q (.ref l) H'
section
variable {P : Program} {w : World} {K : PySem.W.Frag} {mg : Str → Option Value} {base : Heap} {f : Addr} {fd : FuncData}
theorem sc__law_places : FnScope ["web", "order", "left", "place", "hand", "kind", "cell", "found"] ["web", "order"] (defScope s__law_places) := ⟨rfl, rfl, rfl, by decide +kernel, rfl, by decide +kernel, by decide +kernel⟩
theorem ok__law_places (T : Txt K mg) (F : FnP K "_law_places" "_law_places" s__law_places [] f fd) : FnOk P w K mg base CX0 1 f fd ["web", "order"] sp_law_places := by
  refine fok F sc__law_places (fun vs H Q E h => ?_) (fun cdv A outer s H vs Q E hr h => ?_)
  · obtain ⟨_, _, _, _, rfl, _⟩ := h
    rfl
  · obtain ⟨a, o, W, wd, rfl, hW, hO, h50, hw50, hcnt, q⟩ := h
    have hu : (A.deeper (envOfC "_law_places" (defScope s__law_places) s.heap.objs.size f cdv)).units + 1 < cLine := by have := hr.un; omega
    refine ⟨_, (pss_cons (ps_set (i := 2) sc__law_places.nd rfl (Or.inl rfl) pe_dnewK)
  (pss_cons (ps_for PassesOwn.never rfl (pi_enum rfl T.n_enumerate (pa_cons (pv 0) pa_nil)) (pg_tup (by rfl) (pgs_cons (pg_name (i := 3) sc__law_places.nd rfl (Or.inl rfl)) (pgs_cons (pg_tup (by rfl) (pgs_cons (pg_name (i := 4) sc__law_places.nd rfl (Or.inl rfl)) (pgs_cons (pg_name (i := 5) sc__law_places.nd rfl (Or.inl rfl)) (pgs_cons (pg_name (i := 6) sc__law_places.nd rfl (Or.inl rfl)) pgs_nil)))) pgs_nil)))
  (pss_one (ps_dput hu (pv 2) (pv 4) (pe_op op_cat (pe_dget2 hu (pv 2) (pv 4) (pe_lst pa_nil) ⟨rfl, rfl, rfl, rfl⟩) (pe_lst (pa_cons (pv 3) pa_nil))) rfl)))
  (pss_cons (ps_set (i := 7) sc__law_places.nd rfl (Or.inl rfl) (pe_lst pa_nil))
  (pss_cons (ps_for PassesOwn.never rfl (pi_list (pv 1)) (pg_name (i := 4) sc__law_places.nd rfl (Or.inl rfl))
  (pss_cons (ps_expr (pe_bm PySem.F.plainAttrs_list PySem.F.slot_list_append PySem.F.type_list_append mt_append (pv 7) (pa_cons (pe_ix ix_list (pe_dget hu (pv 2) (pv 4) (fun _ _ => rfl)) pe_int (fun _ _ => rfl)) pa_nil)))
  (pss_one (ps_dput hu (pv 2) (pv 4) (pe_slice sl_list (pe_dget hu (pv 2) (pv 4) (fun _ _ => rfl)) (po_some pe_int) po_none) rfl))))
  (pss_one (ps_ret (pv 7))))))), ?_⟩
    obtain ⟨xs, ha, hT⟩ := hW
    have hxl : xs.length = W.length := by rw [hT.1, List.length_map]
    refine fun d hd => ?_
    have Sd := Same.new (o := .dK []) hd
    refine ⟨_, rfl, a, xs, rfl, SqL.of (Sd _ _ ha), for_it (walk_enum (xs := xs)) (fun i σ H' => ∃ (v3 v4 v5 v6 : Option V) (kvs : List (Key × V)), σ = [some (.ref a), some (.ref o), some (.ref d), v3, v4, v5, v6, none] ∧ Same H H' ∧ H' d = some (.dK kvs) ∧ kvs.length ≤ i ∧
        (∀ h : Nat, valV kvs (.inl (h : Int)) = none → placesOf W i h = []) ∧ ∀ (h : Nat) v, valV kvs (.inl (h : Int)) = some v → ∃ l, v = .ref l ∧ l ≠ d ∧ H' l = some (.lst (natsV (placesOf W i h))))
      ⟨none, none, none, none, [], rfl, Sd, upd_same, Nat.le_refl _, (fun h _ => rfl), (fun h v e => (by cases e))⟩ (fun i σ H' _ ⟨_, _, _, _, _, _, S, _⟩ => SqL.of (S _ _ ha)) ?_ ?_⟩
    · rintro i y σ H1 H2 hi ⟨v3, v4, v5, v6, kvs, rfl, S1, hd1, hkl, hnone, hsome⟩ ⟨t, y1, y2, rfl, ht, rfl, e1, e2⟩
      have ex0 : some (V.int ((i : Nat) : Int)) = some y1 := e1
      cases ex0
      have e2 : xs[i]? = some y2 := e2
      obtain ⟨x, ex⟩ : ∃ x, W[i]? = some x := ⟨_, List.getElem?_eq_getElem (by omega)⟩
      obtain ⟨u, eu, hut⟩ := hT.at (x := twV x) (by rw [List.getElem?_map, ex] <;> rfl)
      rw [eu] at e2
      cases e2
      have St := Same.new (o := .tup [.int ((i : Nat) : Int), .ref u]) ht
      have hu2 := St _ _ (S1 _ _ hut)
      have hd2 := St _ _ hd1
      have eh := hand_of_at ex
      refine ⟨t, _, rfl, SqT.of upd_same, rfl, _, _, rfl, _, _, rfl, u, _, rfl, SqT.of hu2, rfl, _, _, rfl, _, _, rfl, _, _, rfl, rfl, rfl, ?_⟩
      -- left[hand] = left.get(hand, []) + [place]
      refine ⟨_, rfl, d, rfl, .inl ⟨_, .inl hd2⟩, _, rfl, by show 0 ≤ sizeLine; decide, fun e he => ?_⟩
      have Se := Same.new (o := .lst []) he
      have hd3 := Se _ _ hd2
      refine ⟨_, DGet.k (k := .inl (x.1 : Int)) hd3, ?_⟩
      have S3 := S1.trans (St.trans Se)
      obtain ⟨l, el, hl⟩ : ∃ l, (valV kvs (.inl (x.1 : Int))).getD (.ref e) = .ref l ∧ (upd (upd H1 t (.tup [.int ((i : Nat) : Int), .ref u])) e (.lst [])) l = some (.lst (natsV (placesOf W i x.1))) := by
        cases ev : valV kvs (.inl (x.1 : Int)) with
        | none =>
          refine ⟨e, rfl, ?_⟩
          rw [hnone _ ev, upd_same]
          rfl
        | some v =>
          obtain ⟨l, rfl, _, hl⟩ := hsome _ v ev
          exact ⟨l, rfl, Se _ _ (St _ _ hl)⟩
      simp only [el]
      have hold : ∀ (h : Nat) v, valV kvs (.inl (h : Int)) = some v → ∃ l, v = .ref l ∧ l ≠ d ∧ (upd (upd H1 t (.tup [.int ((i : Nat) : Int), .ref u])) e (.lst [])) l = some (.lst (natsV (placesOf W i h))) := fun h v hv => by
        obtain ⟨l, e1, e2, e3⟩ := hsome h v hv
        exact ⟨l, e1, e2, Se _ _ (St _ _ e3)⟩
      generalize upd (upd H1 t (.tup [.int ((i : Nat) : Int), .ref u])) e (.lst []) = H3 at hd3 S3 hl hold
      refine ⟨_, rfl, by show 1 ≤ sizeLine; decide, fun g hg => ?_⟩
      have Sg := Same.new (o := .lst [.int ((i : Nat) : Int)]) hg
      have hpl := placesOf_le W i x.1
      refine ⟨l, g, _, _, rfl, rfl, Sg _ _ hl, upd_same, szw (by rw [natsV_len]; show _ + 1 ≤ 100000; omega), fun z hz => ?_⟩
      rw [natsV_snoc]
      have Sz := Same.new (o := .lst (natsV (placesOf W i x.1 ++ [i]))) hz
      have hd4 := Sz _ _ (Sg _ _ hd3)
      have nzd : z ≠ d := (ne_of_none (Sg _ _ hd3) hz).symm
      refine ⟨_, rfl, _, rfl, d, _, rfl, DPut.k (k := .inl (x.1 : Int)) hd4 (Nat.lt_of_le_of_lt (by omega : _ ≤ 50) (by decide)), ?_⟩
      have hvp := fun j => valV_put kvs (.inl (x.1 : Int)) j (V.ref z)
      refine ⟨_, _, _, _, putK kvs (.inl (x.1 : Int)) (.ref z), rfl, Same.mut (S3.trans (Sg.trans Sz)) hd, upd_same, by have := length_putK kvs (.inl (x.1 : Int)) (V.ref z); omega, fun h hv => ?_, fun h v hv => ?_⟩
      · rw [hvp] at hv
        by_cases y : (Sum.inl (h : Int) : Key) = .inl (x.1 : Int)
        · rw [if_pos y] at hv; cases hv
        · rw [if_neg y] at hv
          rw [placesOf_succ, hnone h hv, if_neg (fun k => y (by rw [← k, eh]))]
          rfl
      · rw [hvp] at hv
        by_cases y : (Sum.inl (h : Int) : Key) = .inl (x.1 : Int)
        · rw [if_pos y] at hv
          cases hv
          have eh2 : h = x.1 := by injection y with y; omega
          rw [placesOf_succ, eh, if_pos eh2.symm, eh2]
          exact ⟨z, rfl, nzd, (upd_ne nzd).trans upd_same⟩
        · rw [if_neg y] at hv
          obtain ⟨l', e1, e2, e3⟩ := hold h v hv
          rw [placesOf_succ, if_neg (fun k => y (by rw [← k, eh])), List.append_nil]
          exact ⟨l', e1, e2, (upd_ne e2).trans (Sz _ _ (Sg _ _ e3))⟩
    · rintro σ H1 ⟨v3, v4, v5, v6, kvs, rfl, S1, hd1, hkl, hnone, hsome⟩
      rw [hxl] at hnone hsome hkl
      refine ⟨by show 0 ≤ sizeLine; decide, fun fo hfo => ?_⟩
      have Sf := Same.new (o := .lst []) hfo
      have ffo := S1.free hfo
      have ndf : d ≠ fo := ne_of_none hd1 hfo
      refine ⟨_, rfl, o, rfl, ⟨_, SqL.of (Sf _ _ (S1 _ _ hO))⟩, for_it (walk_list (xs := natsV wd)) (fun t σ H' => ∃ (v4 : Option V) (kvs : List (Key × V)), σ = [some (.ref a), some (.ref o), some (.ref d), v3, v4, v5, v6, some (.ref fo)] ∧ Same H H' ∧ H' d = some (.dK kvs) ∧ kvs.length ≤ W.length + t ∧ H' fo = some (.lst (natsV ((List.range t).map (placeAt W wd)))) ∧
          (∀ h : Nat, valV kvs (.inl (h : Int)) = none → (placesOf W W.length h).drop ((wd.take t).count h) = []) ∧ ∀ (h : Nat) v, valV kvs (.inl (h : Int)) = some v → ∃ l, v = .ref l ∧ l ≠ d ∧ l ≠ fo ∧ H' l = some (.lst (natsV ((placesOf W W.length h).drop ((wd.take t).count h)))))
        ⟨v4, kvs, rfl, S1.trans Sf, Sf _ _ hd1, hkl, upd_same, (fun h hv => by rw [hnone h hv]; rfl), fun h v hv => ?_⟩ (fun t σ H' _ ⟨_, _, _, S, _⟩ => SqL.of (S _ _ hO)) ?_ ?_⟩
      · obtain ⟨l, e1, e2, e3⟩ := hsome h v hv
        exact ⟨l, e1, e2, ne_of_none e3 hfo, Sf _ _ e3⟩
      · rintro t y σ H2 H3 ht ⟨v4, kvs, rfl, S2, hd2, hkl2, hf2, hn2, hs2⟩ ⟨rfl, hy⟩
        rw [natsV_len] at ht
        have ewt : wd[t]? = some (wd.getD t 0) := getD_at ht
        rw [natsV_get ewt] at hy
        cases hy
        have hc := hcnt t ht
        have hne : (placesOf W W.length (wd.getD t 0)).drop ((wd.take t).count (wd.getD t 0)) ≠ [] := fun e => by
          have := congrArg List.length e
          rw [List.length_drop] at this
          simp only [List.length_nil] at this
          omega
        obtain ⟨v, hv⟩ : ∃ v, valV kvs (.inl ((wd.getD t 0 : Nat) : Int)) = some v := by
          cases e : valV kvs (.inl ((wd.getD t 0 : Nat) : Int)) with
          | none => exact absurd (hn2 _ e) hne
          | some v => exact ⟨v, rfl⟩
        obtain ⟨l, rfl, nld, nlf, hl⟩ := hs2 _ v hv
        have edrop : (placesOf W W.length (wd.getD t 0)).drop ((wd.take t).count (wd.getD t 0)) = placeAt W wd t :: (placesOf W W.length (wd.getD t 0)).drop ((wd.take t).count (wd.getD t 0) + 1) := by
          rw [drop_cons hc]
          rfl
        rw [edrop] at hl
        -- found.append(left[hand][0])
        refine ⟨_, rfl, .inl ⟨rfl, _, SqL.of hf2⟩, _, rfl, _, rfl, d, .ref l, rfl, ?_, _, _, _, _, rfl, rfl, SqL.of hl, at0, fo, _, _, rfl, rfl, hf2, Nat.lt_of_le_of_lt (by rw [natsV_len, List.length_map, List.length_range]; omega : _ ≤ 50) (by decide), ?_⟩
        · rw [← hv]
          exact DGet.k (k := .inl ((wd.getD t 0 : Nat) : Int)) hd2
        rw [natsV_snoc]
        have hd3 : (upd H3 fo (.lst (natsV ((List.range t).map (placeAt W wd) ++ [placeAt W wd t])))) d = some (.dK kvs) := (upd_ne ndf).trans hd2
        have hl3 : (upd H3 fo (.lst (natsV ((List.range t).map (placeAt W wd) ++ [placeAt W wd t])))) l = some (.lst (V.int ((placeAt W wd t : Nat) : Int) :: natsV ((placesOf W W.length (wd.getD t 0)).drop ((wd.take t).count (wd.getD t 0) + 1)))) := (upd_ne nlf).trans hl
        have S3 : Same H (upd H3 fo (.lst (natsV ((List.range t).map (placeAt W wd) ++ [placeAt W wd t])))) := Same.mut S2 ffo
        have hf3 : (upd H3 fo (.lst (natsV ((List.range t).map (placeAt W wd) ++ [placeAt W wd t])))) fo = some (.lst (natsV ((List.range t).map (placeAt W wd) ++ [placeAt W wd t]))) := upd_same
        have hs3 : ∀ (h : Nat) v, valV kvs (.inl (h : Int)) = some v → ∃ l, v = .ref l ∧ l ≠ d ∧ l ≠ fo ∧ (upd H3 fo (.lst (natsV ((List.range t).map (placeAt W wd) ++ [placeAt W wd t])))) l = some (.lst (natsV ((placesOf W W.length h).drop ((wd.take t).count h)))) := fun h v hv => by
          obtain ⟨l, e1, e2, e3, e4⟩ := hs2 h v hv
          exact ⟨l, e1, e2, e3, (upd_ne e3).trans e4⟩
        generalize upd H3 fo (.lst (natsV ((List.range t).map (placeAt W wd) ++ [placeAt W wd t]))) = H4 at hd3 hl3 S3 hf3 hs3
        -- left[hand] = left[hand][1:]
        refine ⟨_, rfl, _, rfl, d, .ref l, rfl, ?_, _, rfl, l, _, rfl, SqL.of hl3, fun z hz => ?_⟩
        · rw [← hv]
          exact DGet.k (k := .inl ((wd.getD t 0 : Nat) : Int)) hd3
        rw [cut_tail]
        have Sz := Same.new (o := .lst (natsV ((placesOf W W.length (wd.getD t 0)).drop ((wd.take t).count (wd.getD t 0) + 1)))) hz
        have hd4 := Sz _ _ hd3
        have nzd : z ≠ d := (ne_of_none hd3 hz).symm
        have nzf : z ≠ fo := (ne_of_none hf3 hz).symm
        refine ⟨_, rfl, _, rfl, d, _, rfl, DPut.k (k := .inl ((wd.getD t 0 : Nat) : Int)) hd4 (Nat.lt_of_le_of_lt (by omega : _ ≤ 100) (by decide)), ?_⟩
        have hvp := fun j => valV_put kvs (.inl ((wd.getD t 0 : Nat) : Int)) j (V.ref z)
        have etk : wd.take (t + 1) = wd.take t ++ [wd.getD t 0] := by rw [List.take_succ, ewt] <;> rfl
        have ecn : ∀ h, (wd.take (t + 1)).count h = (wd.take t).count h + if wd.getD t 0 = h then 1 else 0 := fun h => by
          rw [etk, List.count_append, List.count_cons]
          simp
        refine ⟨_, putK kvs (.inl ((wd.getD t 0 : Nat) : Int)) (.ref z), rfl, Same.mut (S3.trans Sz) hd, upd_same, by have := length_putK kvs (.inl ((wd.getD t 0 : Nat) : Int)) (V.ref z); omega, ?_, fun h hv' => ?_, fun h v' hv' => ?_⟩
        · rw [List.range_succ, List.map_append]
          exact (upd_ne ndf.symm).trans (Sz _ _ hf3)
        · rw [hvp] at hv'
          by_cases y : (Sum.inl (h : Int) : Key) = .inl ((wd.getD t 0 : Nat) : Int)
          · rw [if_pos y] at hv'; cases hv'
          · rw [if_neg y] at hv'
            rw [ecn, if_neg (fun k => y (by rw [k]))]
            exact hn2 h hv'
        · rw [hvp] at hv'
          by_cases y : (Sum.inl (h : Int) : Key) = .inl ((wd.getD t 0 : Nat) : Int)
          · rw [if_pos y] at hv'
            cases hv'
            have eh2 : h = wd.getD t 0 := by injection y with y; omega
            rw [ecn, if_pos eh2.symm, eh2]
            exact ⟨z, rfl, nzd, nzf, (upd_ne nzd).trans upd_same⟩
          · rw [if_neg y] at hv'
            obtain ⟨l', e1, e2, e3, e4⟩ := hs3 h v' hv'
            rw [ecn, if_neg (fun k => y (by rw [k]))]
            exact ⟨l', e1, e2, e3, (upd_ne e2).trans (Sz _ _ e4)⟩
      · rintro σ H2 ⟨v4, kvs, rfl, S2, hd2, hkl2, hf2, hn2, hs2⟩
        rw [natsV_len] at hf2
        exact ⟨_, rfl, q fo H2 hf2 S2⟩
end
end K72

set_option Elab.async false
set_option linter.all false
set_option maxRecDepth 100000
set_option maxHeartbeats 4000000
/-! _law_kept -/
namespace K72
open PySem PySem.Spec PyProof.Rows L2 TL
theorem mergeK_not {j : Key} : ∀ (more acc : List (Key × V)), (∀ kv ∈ more, kv.1 ≠ j) → valV (mergeK acc more) j = valV acc j
  | [], acc, _ => rfl
  | kv :: more, acc, h => by
    show valV (mergeK (putK acc kv.1 kv.2) more) j = _
    rw [mergeK_not more _ (fun x hx => h x (List.mem_cons_of_mem _ hx)), valV_put, if_neg (fun e => h kv (List.mem_cons_self ..) e.symm)]
theorem mergeK_mem {j : Key} {v : V} : ∀ (more acc : List (Key × V)), (more.map (·.1)).Nodup → (j, v) ∈ more → valV (mergeK acc more) j = some v
  | [], acc, _, h => by cases h
  | kv :: more, acc, hn, h => by
    rw [List.map_cons, List.nodup_cons] at hn
    show valV (mergeK (putK acc kv.1 kv.2) more) j = _
    rcases List.mem_cons.mp h with h | h
    · subst h
      rw [mergeK_not more _ (fun x hx e => hn.1 (List.mem_map.mpr ⟨x, hx, e⟩)), valV_put, if_pos rfl]
    · exact mergeK_mem more _ hn.2 h
def sp_law_kept : Sp := fun vs H Q _ => ∃ (a b : Addr) (W : List Tw) (o : List Nat), vs = [.ref a, .ref b] ∧ WebAt H a W ∧ OrdAt H b o ∧ o.Perm (List.range W.length) ∧ W.length < 64 ∧ ∀ H', Same H H' → Q (.bl (keptB W o)) H'
section
variable {P : Program} {w : World} {K : PySem.W.Frag} {mg : Str → Option Value} {base : Heap} {f : Addr} {fd : FuncData}
theorem sc__law_kept : FnScope ["web", "places", "at", "other", "one", "meets", "k", "place"] ["web", "places"] (defScope s__law_kept) := ⟨rfl, rfl, rfl, by decide +kernel, rfl, by decide +kernel, by decide +kernel⟩
theorem ok__law_kept (T : Txt K mg) (F : FnP K "_law_kept" "_law_kept" s__law_kept [] f fd) : FnOk P w K mg base CX0 1 f fd ["web", "places"] sp_law_kept := by
  refine fok F sc__law_kept (fun vs H Q E h => ?_) (fun cdv A outer s H vs Q E hr h => ?_)
  · obtain ⟨_, _, _, _, rfl, _⟩ := h
    rfl
  · obtain ⟨a, b, W, o, rfl, hW, hO, hperm, h64, q⟩ := h
    have hu : (A.deeper (envOfC "_law_kept" (defScope s__law_kept) s.heap.objs.size f cdv)).units + 1 < cLine := by have := hr.un; omega
    refine ⟨_, (pss_cons (ps_set (i := 2) sc__law_kept.nd rfl (Or.inl rfl) (pe_callTy (call_dictP rfl) (by rfl) T.n_dict (by decide +kernel) (pa_cons (pe_lc (own := [("k", 6), ("place", 7)]) (g := gTup K 2 (gCons (gName 6) (gCons (gName 7) gNil))) (tt := tYes) (te := tTup (tCons (tVar 7) (tCons (tVar 6) tNil))) rfl sc__law_kept.nd (pi_enum rfl T.n_enumerate (pa_cons (pv 1) pa_nil)) (blkOk_by (own := [("k", 6), ("place", 7)]) (N := ["web", "places", "at", "other", "one", "meets", "k", "place"]) (sc := defScope s__law_kept) (by decide +kernel)) (fun _ _ _ _ _ => (pg_tup (by rfl) (pgs_cons (pg_name (i := 6) sc__law_kept.nd rfl (Or.inl rfl)) (pgs_cons (pg_name (i := 7) sc__law_kept.nd rfl (Or.inl rfl)) pgs_nil)))) (fun _ _ _ _ _ => pts_nil) (fun _ _ _ _ _ => (pe_tup (pa_cons (pv 7) (pa_cons (pv 6) pa_nil))))) pa_nil)))
  (pss_cons (ps_for PassesOwn.never rfl (pi_range1 rfl T.n_range (pa_cons (pe_callB call_len_seq (by rfl) T.n_len (by decide +kernel) (pa_cons (pv 0) pa_nil)) pa_nil)) (pg_name (i := 3) sc__law_kept.nd rfl (Or.inl rfl))
  (pss_one (ps_for PassesOwn.never rfl (pi_range1 rfl T.n_range (pa_cons (pv 3) pa_nil)) (pg_name (i := 4) sc__law_kept.nd rfl (Or.inl rfl))
  (C8.pss_cut (ps_set (i := 5) sc__law_kept.nd rfl (Or.inl rfl) (pe_and (pe_cmpR op_eq (pe_ix ix_tup (pe_ix ix_list (pv 0) (pv 4) (fun _ _ => rfl)) pe_int (fun _ _ => rfl)) (pe_ix ix_tup (pe_ix ix_list (pv 0) (pv 3) (fun _ _ => rfl)) pe_int (fun _ _ => rfl)) (nomark _)) (pe_one (pe_or (pe_cmpR op_ne (pe_ix ix_tup (pe_ix ix_list (pv 0) (pv 4) (fun _ _ => rfl)) pe_int (fun _ _ => rfl)) pe_str (nomark _)) (pe_one (pe_cmpR op_ne (pe_ix ix_tup (pe_ix ix_list (pv 0) (pv 3) (fun _ _ => rfl)) pe_int (fun _ _ => rfl)) pe_str (nomark _)))))))
  (pss_one (ps_if (PW.pt (pw_and (PW.pt (pw_or (pt_val (pv 5)) (pw_or1 (pt_cmpR op_eq (pe_ix ix_tup (pe_ix ix_list (pv 0) (pv 4) (fun _ _ => rfl)) pe_int (fun _ _ => rfl)) (pe_ix ix_tup (pe_ix ix_list (pv 0) (pv 3) (fun _ _ => rfl)) pe_int (fun _ _ => rfl)) (nomark _))))) (pw_and1 (pt_cmpR op_gt (pe_dget hu (pv 2) (pv 4) (fun _ _ => rfl)) (pe_dget hu (pv 2) (pv 3) (fun _ _ => rfl)) (nomark _)))))
  (pss_one (ps_ret pe_bl))
  pss_nil))))))
  (pss_one (ps_ret pe_bl)))), ?_⟩
    have nd : o.Nodup := hperm.nodup_iff.mpr List.nodup_range
    have hol : o.length = W.length := by rw [hperm.length_eq, List.length_range]
    obtain ⟨xs, ha, hT⟩ := hW
    have hxl : xs.length = W.length := by rw [hT.1, List.length_map]
    refine ⟨_, rfl, b, _, rfl, SqL.of hO, fun D hD => ?_⟩
    refine lc_it (walk_enum (xs := natsV o)) (fun i H' => ∃ ps : List Addr, H' D = some (.lst (ps.map V.ref)) ∧ Same H H' ∧ ps.length = i ∧ ∀ (j : Nat) p v, ps[j]? = some p → o[j]? = some v → H' p = some (.tup [.int (v : Int), .int (j : Int)]))
      ⟨[], upd_same, Same.new hD, rfl, fun j p v h => by simp at h⟩ (fun i H' _ ⟨_, _, S, _⟩ => SqL.of (S _ _ hO)) ?_ ?_
    · rintro i y H1 H2 hi ⟨ps, hD1, S1, hpl, hps⟩ ⟨t, y1, y2, rfl, ht, rfl, e1, e2⟩
      rw [natsV_len] at hi
      have ex0 : some (V.int ((i : Nat) : Int)) = some y1 := e1
      cases ex0
      have e2 : (natsV o)[i]? = some y2 := e2
      have eo := getD_at hi
      rw [natsV_get eo] at e2
      cases e2
      have St := Same.new (o := .tup [.int ((i : Nat) : Int), .int ((o.getD i 0 : Nat) : Int)]) ht
      refine ⟨t, _, rfl, SqT.of upd_same, rfl, _, _, rfl, _, _, rfl, rfl, rfl, ?_⟩
      refine ⟨_, rfl, _, rfl, by show 2 ≤ sizeLine; decide, fun z hz => ?_⟩
      have Sz := Same.new (o := .tup [.int ((o.getD i 0 : Nat) : Int), .int ((i : Nat) : Int)]) hz
      have hD2 := Sz _ _ (St _ _ hD1)
      have nzD : z ≠ D := (ne_of_none (St _ _ hD1) hz).symm
      refine ⟨_, hD2, Nat.lt_of_le_of_lt (by rw [List.length_map]; omega : _ ≤ 64) (by decide), ps ++ [z], ?_, Same.mut (S1.trans (St.trans Sz)) hD, by rw [List.length_append, hpl] <;> rfl, fun j p v hj hv => ?_⟩
      · rw [upd_same, List.map_append]
        rfl
      · by_cases hji : j < i
        · rw [List.getElem?_append_left (by omega)] at hj
          have h3 := hps j p v hj hv
          rw [upd_ne (fun e => by rw [e, hD1] at h3; cases h3)]
          exact Sz _ _ (St _ _ h3)
        · have hjl := (List.getElem?_eq_some_iff.mp hj).1
          rw [List.length_append, hpl] at hjl
          have ej : j = i := by
            have : j < i + 1 := hjl
            omega
          subst ej
          rw [List.getElem?_append_right (by omega), hpl, Nat.sub_self, List.getElem?_cons_zero] at hj
          cases hj
          rw [eo] at hv
          cases hv
          rw [upd_ne nzD, upd_same]
    rintro H1 ⟨ps, hD1, S1, hpl, hps⟩
    rw [natsV_len] at hpl
    have hpair : Paired (fun p kv => SqT K H1 p [kV kv.1, kv.2]) ps ((List.range o.length).map fun j => ((Sum.inl ((o.getD j 0 : Nat) : Int) : Key), V.int (j : Int))) := by
      have gen : ∀ (ps : List Addr) (f : Nat → Key × V), (∀ j p, ps[j]? = some p → SqT K H1 p [kV (f j).1, (f j).2]) → Paired (fun p kv => SqT K H1 p [kV kv.1, kv.2]) ps ((List.range ps.length).map f) := by
        intro ps
        induction ps with
        | nil => intro f _; exact .nil
        | cons p ps ih =>
          intro f h
          rw [List.length_cons, List.range_succ_eq_map, List.map_cons, List.map_map]
          exact .cons (h 0 p rfl) (ih (f ∘ Nat.succ) fun j q e => h (j + 1) q e)
      rw [← hpl]
      refine gen ps _ fun j p hj => ?_
      have hjl := (List.getElem?_eq_some_iff.mp hj).1
      exact SqT.of (hps j p (o.getD j 0) hj (getD_at (by omega)))
    refine ⟨D, ps, _, rfl, SqL.of hD1, hpair, fun d hd => ?_⟩
    have Sd := Same.new (o := .dK (mergeK [] ((List.range o.length).map fun j => ((Sum.inl ((o.getD j 0 : Nat) : Int) : Key), V.int (j : Int))))) hd
    have hd2 : (upd H1 d (.dK (mergeK [] ((List.range o.length).map fun j => ((Sum.inl ((o.getD j 0 : Nat) : Int) : Key), V.int (j : Int)))))) d = some _ := upd_same
    have hval : ∀ i, i < W.length → valV (mergeK [] ((List.range o.length).map fun j => ((Sum.inl ((o.getD j 0 : Nat) : Int) : Key), V.int (j : Int)))) (.inl (i : Int)) = some (.int ((o.idxOf i : Nat) : Int)) := fun i hi => by
      have hm : i ∈ o := hperm.mem_iff.mpr (List.mem_range.mpr hi)
      have hl := List.idxOf_lt_length_iff.mpr hm
      refine mergeK_mem _ _ ?_ (List.mem_map.mpr ⟨o.idxOf i, List.mem_range.mpr hl, ?_⟩)
      · rw [List.map_map]
        refine List.pairwise_map.mpr ?_
        refine List.pairwise_iff_getElem.mpr fun a b ha hb hab => ?_
        rw [List.getElem_range, List.getElem_range]
        rw [List.length_range] at ha hb
        show (Sum.inl ((o.getD a 0 : Nat) : Int) : Key) ≠ Sum.inl ((o.getD b 0 : Nat) : Int)
        intro e
        have e2 : o.getD a 0 = o.getD b 0 := by injection e with e; omega
        have := (List.getElem?_inj ha nd).mp (show o[a]? = o[b]? by rw [getD_at ha, getD_at hb, e2])
        omega
      · rw [List.getD_eq_getElem?_getD, List.getElem?_eq_getElem hl, List.getElem_idxOf hl]
        rfl
    generalize mergeK [] ((List.range o.length).map fun j => ((Sum.inl ((o.getD j 0 : Nat) : Int) : Key), V.int (j : Int))) = kvs at Sd hd2 hval
    have S2 := S1.trans Sd
    generalize upd H1 d (.dK kvs) = H2 at hd2 S2
    have ha2 := S2 _ _ ha
    refine ⟨_, rfl, a, xs, rfl, .inl (SqL.of ha2), ((W.length : Nat) : Int), by rw [hxl], by omega, by omega, for_range (n := W.length) (fun t σ H' => ∃ v3 v4 v5 : Option V, σ = [some (.ref a), some (.ref b), some (.ref d), v3, v4, v5, none, none] ∧ H' = H2 ∧
        (List.range t).all (fun j => (List.range j).all fun i => !(decide (o.idxOf j < o.idxOf i) && stpAt W i j)) = true) ⟨none, none, none, rfl, rfl, rfl⟩ ?_ ?_⟩
    · rintro j σ H3 hj ⟨v3, v4, v5, rfl, rfl, hall⟩
      refine ⟨_, rfl, (0 + (j : Int)), rfl, by omega, by omega, ?_⟩
      rw [show (0 + (j : Int)).toNat = j by omega]
      refine for_range (n := j) (fun t σ H' => ∃ v4 v5 : Option V, σ = [some (.ref a), some (.ref b), some (.ref d), some (.int (0 + (j : Int))), v4, v5, none, none] ∧ H' = H3 ∧
        (List.range t).all (fun i => !(decide (o.idxOf j < o.idxOf i) && stpAt W i j)) = true) ⟨v4, v5, rfl, rfl, rfl⟩ ?_ ?_
      · rintro i σ H4 hi ⟨v4, v5, rfl, rfl, hall2⟩
        simp only [Int.zero_add]
        obtain ⟨x, ex⟩ : ∃ x, W[i]? = some x := ⟨_, List.getElem?_eq_getElem (by omega)⟩
        obtain ⟨y, ey⟩ : ∃ y, W[j]? = some y := ⟨_, List.getElem?_eq_getElem hj⟩
        obtain ⟨t, et, ht⟩ := hT.at (x := twV x) (by rw [List.getElem?_map, ex] <;> rfl)
        obtain ⟨u, eu, hut⟩ := hT.at (x := twV y) (by rw [List.getElem?_map, ey] <;> rfl)
        have ht2 := S2 _ _ ht
        have hu2 := S2 _ _ hut
        have hix := atI_nat et
        have hjx := atI_nat eu
        have step : ∀ c : Bool, (!(decide (o.idxOf j < o.idxOf i) && stpAt W i j)) = c → c = true → (List.range (i + 1)).all (fun i => !(decide (o.idxOf j < o.idxOf i) && stpAt W i j)) = true := fun c h1 h2 => by
          rw [List.range_succ, List.all_append, hall2, List.all_cons, List.all_nil, h1, h2]
          rfl
        have hst : stpAt W i j = (((x.2.2 == y.2.2) && ((x.2.1 != .load) || (y.2.1 != .load))) || (x.1 == y.1)) := by
          rw [stpAt_of ex ey]
          unfold stp
          rw [Bool.or_comm]
        -- meets
        refine ⟨fun σ' H' => σ' = [some (.ref a), some (.ref b), some (.ref d), some (.int (j : Int)), some (.int (i : Int)), some (.bl ((x.2.2 == y.2.2) && ((x.2.1 != .load) || (y.2.1 != .load)))), none, none] ∧ H' = H4, ?_, ?_⟩
        · refine ⟨_, rfl, _, rfl, _, _, _, _, rfl, rfl, SqL.of ha2, hix, _, _, _, _, rfl, rfl, SqT.of ht2, rfl, _, rfl, _, rfl, _, _, _, _, rfl, rfl, SqL.of ha2, hjx, _, _, _, _, rfl, rfl, SqT.of hu2, rfl, rfl, ?_⟩
          rw [int_eq]
          cases h2 : x.2.2 == y.2.2 with
          | false => exact ⟨_, rfl, rfl, rfl⟩
          | true =>
            refine ⟨_, rfl, ?_⟩
            refine ⟨_, rfl, _, rfl, _, _, _, _, rfl, rfl, SqL.of ha2, hix, _, _, _, _, rfl, rfl, SqT.of ht2, rfl, rfl, ?_⟩
            rw [kd_load]
            cases hx : x.2.1 != .load with
            | true => exact ⟨_, rfl, rfl, rfl⟩
            | false =>
              refine ⟨_, rfl, ?_⟩
              refine ⟨_, rfl, _, rfl, _, _, _, _, rfl, rfl, SqL.of ha2, hjx, _, _, _, _, rfl, rfl, SqT.of hu2, rfl, rfl, ?_⟩
              rw [kd_load]
              exact ⟨rfl, rfl⟩
        · rintro σ' H5 ⟨rfl, rfl⟩
          have gi := hval i (by omega)
          have gj := hval j hj
          have cmp : stpAt W i j = true → tTest (tOp (rI0 fun i j => V.bl (decide (j < i))) (tDGet (tVar 2) (tVar 4)) (tDGet (tVar 2) (tVar 3))) [some (.ref a), some (.ref b), some (.ref d), some (.int (j : Int)), some (.int (i : Int)), some (.bl ((x.2.2 == y.2.2) && ((x.2.1 != .load) || (y.2.1 != .load)))), none, none] H5 fun c H6 =>
              if c = true then Q (.bl false) H6 else (∃ v4 v5 : Option V, [some (V.ref a), some (.ref b), some (.ref d), some (.int (j : Int)), some (.int (i : Int)), some (.bl ((x.2.2 == y.2.2) && ((x.2.1 != .load) || (y.2.1 != .load)))), none, none] = [some (.ref a), some (.ref b), some (.ref d), some (.int (j : Int)), v4, v5, none, none] ∧ H6 = H5 ∧
                (List.range (i + 1)).all (fun i => !(decide (o.idxOf j < o.idxOf i) && stpAt W i j)) = true) := fun hs => by
            refine ⟨_, rfl, _, rfl, d, _, rfl, by rw [← gi]; exact DGet.k (k := .inl (i : Int)) hd2, _, rfl, _, rfl, d, _, rfl, by rw [← gj]; exact DGet.k (k := .inl (j : Int)) hd2, _, _, rfl, rfl, _, rfl, ?_⟩
            by_cases hlt : o.idxOf j < o.idxOf i
            · have hlt' : ((o.idxOf j : Nat) : Int) < ((o.idxOf i : Nat) : Int) := by omega
              refine iteY hlt' ?_
              have hq : keptB W o = false := by
                unfold keptB
                rw [List.all_eq_false]
                refine ⟨j, List.mem_range.mpr hj, fun h => ?_⟩
                have := List.all_eq_true.mp h i (List.mem_range.mpr hi)
                rw [hs, decide_eq_true hlt] at this
                cases this
              rw [hq] at q
              exact q _ S2
            · have hlt' : ¬ ((o.idxOf j : Nat) : Int) < ((o.idxOf i : Nat) : Int) := by omega
              refine iteN hlt' ?_
              exact ⟨_, _, rfl, rfl, step _ rfl (by rw [decide_eq_false hlt]; rfl)⟩
          have stay : stpAt W i j = false → (∃ v4 v5 : Option V, [some (V.ref a), some (.ref b), some (.ref d), some (.int (j : Int)), some (.int (i : Int)), some (.bl ((x.2.2 == y.2.2) && ((x.2.1 != .load) || (y.2.1 != .load)))), none, none] = [some (.ref a), some (.ref b), some (.ref d), some (.int (j : Int)), v4, v5, none, none] ∧ H5 = H5 ∧
                (List.range (i + 1)).all (fun i => !(decide (o.idxOf j < o.idxOf i) && stpAt W i j)) = true) := fun hs => ⟨_, _, rfl, rfl, step _ rfl (by rw [hs, Bool.and_false]; rfl)⟩
          cases hm : (x.2.2 == y.2.2) && ((x.2.1 != .load) || (y.2.1 != .load)) with
          | true =>
            rw [hm] at hst
            rw [hm] at cmp
            exact ⟨_, rfl, true, rfl, cmp hst⟩
          | false =>
            rw [hm] at hst
            rw [hm] at cmp stay
            refine ⟨_, rfl, false, rfl, ?_⟩
            refine ⟨_, rfl, _, rfl, _, _, _, _, rfl, rfl, SqL.of ha2, hix, _, _, _, _, rfl, rfl, SqT.of ht2, rfl, _, rfl, _, rfl, _, _, _, _, rfl, rfl, SqL.of ha2, hjx, _, _, _, _, rfl, rfl, SqT.of hu2, rfl, rfl, _, rfl, ?_⟩
            rw [int_eq]
            cases h1 : x.1 == y.1 with
            | true =>
              rw [h1] at hst
              exact cmp hst
            | false =>
              rw [h1] at hst
              exact stay hst
      · rintro σ H4 ⟨v4, v5, rfl, rfl, hall2⟩
        refine ⟨_, _, _, rfl, rfl, ?_⟩
        rw [List.range_succ, List.all_append, hall, List.all_cons, List.all_nil, hall2]
        rfl
    · rintro σ H3 ⟨v3, v4, v5, rfl, rfl, hall⟩
      have hq : keptB W o = true := hall
      rw [hq] at q
      exact q _ S2
end
end K72

set_option Elab.async false
set_option linter.all false
set_option maxRecDepth 100000
set_option maxHeartbeats 4000000
/-! ranks, places -/
namespace K72
open L2
/-! ### words: the r-th occurrence -/
theorem occ {h : Nat} : ∀ (w : List Nat) (r : Nat), r < w.count h → ∃ t, t < w.length ∧ w[t]? = some h ∧ (w.take t).count h = r
  | [], r, hr => by simp at hr
  | x :: w, r, hr => by
    rw [List.count_cons] at hr
    by_cases z : x = h
    · subst z
      cases r with
      | zero => exact ⟨0, Nat.succ_pos _, rfl, rfl⟩
      | succ r =>
        obtain ⟨t, h1, h2, h3⟩ := occ w r (by simp at hr; omega)
        exact ⟨t + 1, Nat.succ_lt_succ h1, by rw [List.getElem?_cons_succ]; exact h2, by rw [List.take_succ_cons, List.count_cons, h3]; simp⟩
    · have hb : (x == h) = false := beq_eq_false_iff_ne.mpr z
      rw [hb] at hr
      obtain ⟨t, h1, h2, h3⟩ := occ w r (by simpa using hr)
      exact ⟨t + 1, Nat.succ_lt_succ h1, by rw [List.getElem?_cons_succ]; exact h2, by rw [List.take_succ_cons, List.count_cons, h3, hb]; rfl⟩
theorem cnt_succ {w : List Nat} {t x : Nat} (h : w[t]? = some x) (g : Nat) : (w.take (t + 1)).count g = (w.take t).count g + if x = g then 1 else 0 := by
  rw [List.take_succ, h]
  show (w.take t ++ [x]).count g = _
  rw [List.count_append, List.count_cons]
  simp
theorem cnt_mono {w : List Nat} (g : Nat) : ∀ {t u : Nat}, t ≤ u → (w.take t).count g ≤ (w.take u).count g := fun {t u} h => by
  obtain ⟨d, rfl⟩ := Nat.le.dest h
  rw [List.take_add, List.count_append]
  omega
theorem cnt_lt {w : List Nat} {t u h : Nat} (ht : w[t]? = some h) (htu : t < u) : (w.take t).count h < (w.take u).count h := by
  have h1 := cnt_mono (w := w) h (t := t + 1) (u := u) htu
  rw [cnt_succ ht, if_pos rfl] at h1
  omega
theorem occ_uniq {w : List Nat} {t u h : Nat} (ht : w[t]? = some h) (hu : w[u]? = some h) (e : (w.take t).count h = (w.take u).count h) : t = u := by
  rcases Nat.lt_trichotomy t u with z | z | z
  · have := cnt_lt ht z; omega
  · exact z
  · have := cnt_lt hu z; omega
/-! ### ranks -/
section
variable {W : List Tw}
theorem hands_at {i : Nat} (h : i < W.length) : (W.map Prod.fst)[i]? = some (hand W i) := by
  rw [List.getElem?_map, List.getElem?_eq_getElem h, hand_of_at (List.getElem?_eq_getElem h)]
  rfl
theorem rank_eq (i : Nat) : rank W i = ((W.map Prod.fst).take i).count (hand W i) := by unfold rank; rw [List.map_take]
theorem rank_lt_of {i j : Nat} (hij : i < j) (hj : j < W.length) (e : hand W i = hand W j) : rank W i < rank W j := by
  rw [rank_eq, rank_eq, ← e]
  exact cnt_lt (hands_at (by omega)) hij
theorem rank_tot {i : Nat} (h : i < W.length) : rank W i < (W.map Prod.fst).count (hand W i) := by
  rw [rank_eq]
  have := cnt_lt (hands_at h) h
  rw [List.take_of_length_le (by rw [List.length_map] <;> exact Nat.le_refl _ : (W.map Prod.fst).length ≤ W.length)] at this
  exact this
theorem rank_ex {h r : Nat} (hr : r < (W.map Prod.fst).count h) : ∃ j, j < W.length ∧ hand W j = h ∧ rank W j = r := by
  obtain ⟨t, h1, h2, h3⟩ := occ _ r hr
  rw [List.length_map] at h1
  have e : hand W t = h := by
    rw [hands_at h1] at h2
    exact Option.some.inj h2
  exact ⟨t, h1, e, by rw [rank_eq, e]; exact h3⟩
theorem name_inj {i j : Nat} (hi : i < W.length) (hj : j < W.length) (e : hand W i = hand W j) (r : rank W i = rank W j) : i = j := by
  rcases Nat.lt_trichotomy i j with z | z | z
  · have := rank_lt_of z hj e; omega
  · exact z
  · have := rank_lt_of z hi e.symm; omega
theorem placesOf_len : ∀ (i h : Nat), i ≤ W.length → (placesOf W i h).length = ((W.map Prod.fst).take i).count h
  | 0, h, _ => rfl
  | i + 1, h, hi => by
    rw [placesOf_succ, List.length_append, placesOf_len i h (by omega), cnt_succ (hands_at (by omega))]
    by_cases z : hand W i = h
    · rw [if_pos z, if_pos z]; rfl
    · rw [if_neg z, if_neg z]; rfl
theorem placesOf_at : ∀ (i h r j : Nat), i ≤ W.length → ((placesOf W i h)[r]? = some j ↔ j < i ∧ hand W j = h ∧ rank W j = r)
  | 0, h, r, j, _ => by
    constructor
    · intro e; simp [placesOf] at e
    · intro e; omega
  | i + 1, h, r, j, hi => by
    have ih := placesOf_at i h r j (by omega)
    have il := placesOf_len i h (by omega : i ≤ W.length)
    rw [placesOf_succ]
    by_cases z : hand W i = h
    · rw [if_pos z]
      by_cases hr : r < (placesOf W i h).length
      · rw [List.getElem?_append_left hr, ih]
        constructor
        · rintro ⟨a, b, c⟩; exact ⟨by omega, b, c⟩
        · rintro ⟨a, b, c⟩
          refine ⟨?_, b, c⟩
          rcases Nat.lt_or_ge j i with y | y
          · exact y
          · have : j = i := by omega
            subst this
            rw [rank_eq, b] at c
            omega
      · rw [List.getElem?_append_right (by omega)]
        constructor
        · intro e
          have h0 : r - (placesOf W i h).length = 0 := by
            cases hn : r - (placesOf W i h).length with
            | zero => rfl
            | succ n => rw [hn] at e; simp at e
          rw [h0, List.getElem?_cons_zero] at e
          cases e
          refine ⟨by omega, z, ?_⟩
          rw [rank_eq, z]
          omega
        · rintro ⟨a, b, c⟩
          have hji : j = i := by
            rcases Nat.lt_or_ge j i with y | y
            · exfalso
              have := cnt_lt (w := W.map Prod.fst) (hands_at (by omega : j < W.length)) y
              rw [rank_eq] at c
              rw [b] at this c
              omega
            · omega
          subst hji
          rw [rank_eq, b] at c
          rw [show r - (placesOf W j h).length = 0 by omega]
          rfl
    · rw [if_neg z, List.append_nil, ih]
      constructor
      · rintro ⟨a, b, c⟩; exact ⟨by omega, b, c⟩
      · rintro ⟨a, b, c⟩
        refine ⟨?_, b, c⟩
        rcases Nat.lt_or_ge j i with y | y
        · exact y
        · have : j = i := by omega
          subst this
          exact absurd b z
/-! ### the places of a word with the web's counts -/
/-- w has each hand as often as the web -/
def Full (W : List Tw) (w : List Nat) : Prop := ∀ h, w.count h = (W.map Prod.fst).count h
theorem Full.len {w : List Nat} (f : Full W w) : w.length = W.length := by
  have := (List.perm_iff_count.mpr f).length_eq
  rw [List.length_map] at this
  exact this
theorem Full.lt {w : List Nat} (f : Full W w) {t : Nat} (ht : t < w.length) : (w.take t).count (w.getD t 0) < (W.map Prod.fst).count (w.getD t 0) := by
  have := cnt_lt (getD_at ht) ht
  rw [List.take_length] at this
  rw [← f]
  exact this
theorem placeAt_spec {w : List Nat} (f : Full W w) {t : Nat} (ht : t < w.length) : placeAt W w t < W.length ∧ hand W (placeAt W w t) = w.getD t 0 ∧ rank W (placeAt W w t) = (w.take t).count (w.getD t 0) := by
  have hl := f.lt ht
  have e : (placesOf W W.length (w.getD t 0)).length = (W.map Prod.fst).count (w.getD t 0) := by
    rw [placesOf_len _ _ (Nat.le_refl _), List.take_of_length_le (by rw [List.length_map] <;> exact Nat.le_refl _)]
  have h2 : (placesOf W W.length (w.getD t 0))[(w.take t).count (w.getD t 0)]? = some (placeAt W w t) := by
    rw [getD_at (by omega : (w.take t).count (w.getD t 0) < (placesOf W W.length (w.getD t 0)).length)]
    rfl
  exact (placesOf_at _ _ _ _ (Nat.le_refl _)).mp h2
theorem places_len (w : List Nat) : (places W w).length = w.length := by unfold places; simp
theorem places_at {w : List Nat} {t : Nat} (ht : t < w.length) : (places W w)[t]? = some (placeAt W w t) := by
  unfold places
  rw [List.getElem?_map, List.getElem?_range ht]
  rfl
theorem places_nodup {w : List Nat} (f : Full W w) : (places W w).Nodup := by
  refine List.pairwise_iff_getElem.mpr fun a b ha hb hab => ?_
  rw [places_len] at ha hb
  intro e
  have e1 := places_at (W := W) ha
  have e2 := places_at (W := W) hb
  rw [List.getElem?_eq_getElem (by rw [places_len]; exact ha)] at e1
  rw [List.getElem?_eq_getElem (by rw [places_len]; exact hb)] at e2
  have e3 : placeAt W w a = placeAt W w b := by rw [← Option.some.inj e1, ← Option.some.inj e2, e]
  obtain ⟨_, a2, a3⟩ := placeAt_spec f ha
  obtain ⟨_, b2, b3⟩ := placeAt_spec f hb
  rw [e3] at a2 a3
  have eh : w.getD a 0 = w.getD b 0 := a2.symm.trans b2
  have ga := getD_at ha
  have gb := getD_at hb
  rw [eh] at ga a3
  have := occ_uniq ga gb (a3.symm.trans b3)
  omega
/-- where the touch i stands -/
theorem place_ex {w : List Nat} (f : Full W w) {i : Nat} (hi : i < W.length) : ∃ t, t < w.length ∧ placeAt W w t = i ∧ w.getD t 0 = hand W i ∧ (w.take t).count (hand W i) = rank W i := by
  have hr := rank_tot hi
  rw [← f] at hr
  obtain ⟨t, h1, h2, h3⟩ := occ w _ hr
  have e : w.getD t 0 = hand W i := getD_of h2
  obtain ⟨p1, p2, p3⟩ := placeAt_spec f h1
  refine ⟨t, h1, name_inj p1 hi (p2.trans e) ?_, e, h3⟩
  rw [p3, e, h3]
theorem places_perm {w : List Nat} (f : Full W w) : (places W w).Perm (List.range W.length) := by
  have nd := places_nodup f
  refine List.perm_iff_count.mpr fun i => ?_
  rw [nd.count, List.nodup_range.count]
  have e : i ∈ places W w ↔ i ∈ List.range W.length := by
    rw [List.mem_range]
    constructor
    · intro h
      obtain ⟨t, ht, rfl⟩ := List.mem_map.mp h
      exact (placeAt_spec f (List.mem_range.mp ht)).1
    · intro h
      obtain ⟨t, h1, h2, _⟩ := place_ex f h
      exact List.mem_map.mpr ⟨t, List.mem_range.mpr h1, h2⟩
  by_cases z : i ∈ places W w
  · rw [if_pos z, if_pos (e.mp z)]
  · rw [if_neg z, if_neg (fun k => z (e.mpr k))]
theorem place_idx {w : List Nat} (f : Full W w) {t : Nat} (ht : t < w.length) : (places W w).idxOf (placeAt W w t) = t := by
  have e1 := places_at (W := W) ht
  have hl : t < (places W w).length := by rw [places_len]; exact ht
  rw [List.getElem?_eq_getElem hl] at e1
  rw [← Option.some.inj e1]
  exact (places_nodup f).idxOf_getElem t hl
/-- done by t: by places, by counts -/
theorem done_iff {w : List Nat} (f : Full W w) {i t : Nat} (hi : i < W.length) : (places W w).idxOf i < t ↔ rank W i < (w.take t).count (hand W i) := by
  obtain ⟨u, h1, h2, h3, h4⟩ := place_ex f hi
  rw [← h2, place_idx f h1, h2]
  have gu : w[u]? = some (hand W i) := by rw [getD_at h1, h3]
  constructor
  · intro h
    have := cnt_lt gu h
    omega
  · intro h
    rcases Nat.lt_or_ge u t with z | z
    · exact z
    · have := cnt_mono (w := w) (hand W i) z
      omega
/-- the step condition at a count vector -/
def OkD (W : List Tw) (c : Nat → Nat) (h : Nat) : Prop := ∀ i j, i < j → j < W.length → stpAt W i j = true → hand W j = h → rank W j = c h → rank W i < c (hand W i)
def DD (W : List Tw) (w : List Nat) : Prop := ∀ t, t < w.length → OkD W (fun h => (w.take t).count h) (w.getD t 0)
theorem kept_iff {w : List Nat} (f : Full W w) : keptB W (places W w) = true ↔ DD W w := by
  unfold keptB
  constructor
  · intro hk t ht i j hij hj hs e1 e2
    obtain ⟨p1, p2, p3⟩ := placeAt_spec f ht
    have ej : placeAt W w t = j := name_inj p1 hj (p2.trans e1.symm) (p3.trans e2.symm)
    have h1 := List.all_eq_true.mp (List.all_eq_true.mp hk j (List.mem_range.mpr hj)) i (List.mem_range.mpr hij)
    rw [hs, Bool.and_true, Bool.not_eq_true', decide_eq_false_iff_not] at h1
    refine (done_iff f (by omega)).mp ?_
    have ij : (places W w).idxOf j = t := by rw [← ej]; exact place_idx f ht
    have hne : (places W w).idxOf i ≠ t := fun e => by
      have hm : i ∈ places W w := (places_perm f).mem_iff.mpr (List.mem_range.mpr (by omega))
      have hm2 : j ∈ places W w := (places_perm f).mem_iff.mpr (List.mem_range.mpr hj)
      have l1 := List.idxOf_lt_length_iff.mpr hm
      have l2 := List.idxOf_lt_length_iff.mpr hm2
      have g1 := List.getElem_idxOf l1
      have g2 := List.getElem_idxOf l2
      have : i = j := by
        rw [← g1, ← g2]
        congr 1
        rw [e, ij]
      omega
    omega
  · intro hd
    refine List.all_eq_true.mpr fun j hj => List.all_eq_true.mpr fun i hi => ?_
    rw [List.mem_range] at hj hi
    cases hs : stpAt W i j with
    | false => rw [Bool.and_false]; rfl
    | true =>
      rw [Bool.and_true, Bool.not_eq_true', decide_eq_false_iff_not]
      obtain ⟨t, h1, h2, h3, h4⟩ := place_ex f hj
      have := hd t h1 i j hi hj hs h3.symm (by rw [h3]; exact h4.symm)
      have h5 := (done_iff f (by omega : i < W.length) (t := t)).mpr this
      rw [← h2, place_idx f h1]
      omega
end
end K72

set_option Elab.async false
set_option linter.all false
set_option maxRecDepth 100000
set_option maxHeartbeats 4000000
/-! what a look back knows; keeps is the step condition -/
namespace K72
open L2
def tabAt (W : List Tw) (i : Nat) : List Nat := (look W (tabs W i) i).1
def firstsAt (W : List Tw) (j : Nat) : List Nat := (look W (tabs W j) j).2
def knownAt (W : List Tw) (j : Nat) : List Nat := (lookN W (tabs W j) j j).1
theorem tabs_at (W : List Tw) : ∀ (j i : Nat), i < j → (tabs W j)[i]? = some (tabAt W i)
  | j + 1, i, h => by
    show (tabs W j ++ [(look W (tabs W j) j).1])[i]? = _
    by_cases z : i < j
    · rw [List.getElem?_append_left (by rw [tabs_len]; exact z)]
      exact tabs_at W j i z
    · have : i = j := by omega
      subst this
      rw [List.getElem?_append_right (by rw [tabs_len] <;> exact Nat.le_refl _), tabs_len, Nat.sub_self]
      rfl
theorem mxV_getD {a b : List Nat} (h : a.length = b.length) (g : Nat) : (mxV a b).getD g 0 = max (a.getD g 0) (b.getD g 0) := by
  unfold mxV
  rw [List.getD_eq_getElem?_getD, List.getD_eq_getElem?_getD, List.getD_eq_getElem?_getD, List.getElem?_zipWith]
  by_cases z : g < a.length
  · rw [List.getElem?_eq_getElem z, List.getElem?_eq_getElem (by omega)]
    rfl
  · rw [List.getElem?_eq_none_iff.mpr (by omega), List.getElem?_eq_none_iff.mpr (by omega)]
    rfl
section
variable {W : List Tw}
theorem tabAt_len (i : Nat) : (tabAt W i).length = 8 := tabs_8 W (i + 1) _ (by show _ ∈ tabs W i ++ [_]; exact List.mem_append_right _ (List.mem_singleton.mpr rfl))
/-- one turn of the look -/
theorem lookN_succ {j m : Nat} (hm : m < j) : lookN W (tabs W j) j (m + 1) = if (lookN W (tabs W j) j m).1.getD (hand W (j - 1 - m)) 0 ≤ rank W (j - 1 - m) ∧ stpAt W (j - 1 - m) j = true then
      (mxV (lookN W (tabs W j) j m).1 (tabAt W (j - 1 - m)), if hand W (j - 1 - m) ≠ hand W j then (lookN W (tabs W j) j m).2 ++ [j - 1 - m] else (lookN W (tabs W j) j m).2)
    else lookN W (tabs W j) j m := by
  have e : (tabs W j).getD (j - 1 - m) [] = tabAt W (j - 1 - m) := getD_of (tabs_at W j _ (by omega))
  rw [lookN, e]
theorem lookN_8 {j : Nat} (m : Nat) (hm : m ≤ j) : (lookN W (tabs W j) j m).1.length = 8 := (lookN_len (tabs_8 W j) (by rw [tabs_len] <;> exact Nat.le_refl _) m hm).1
theorem firsts_sound {j : Nat} : ∀ m, m ≤ j → ∀ i ∈ (lookN W (tabs W j) j m).2, i < j ∧ stpAt W i j = true ∧ hand W i ≠ hand W j
  | 0, _ => fun i h => (by cases h)
  | m + 1, hm => fun i h => by
    have ih := firsts_sound (j := j) m (by omega)
    rw [lookN_succ (by omega)] at h
    split at h
    · rename_i hc
      simp only at h
      split at h
      · rename_i hne
        rcases List.mem_append.mp h with h | h
        · exact ih i h
        · rw [List.mem_singleton.mp h]
          exact ⟨by omega, hc.2, hne⟩
      · exact ih i h
    · exact ih i h
/-- what the table at i knows of its own hand -/
theorem tabAt_own {i : Nat} (h8 : hand W i < 8) : (tabAt W i).getD (hand W i) 0 = rank W i + 1 := by
  have hl : (lookN W (tabs W i) i i).1.length = 8 := lookN_8 i (Nat.le_refl _)
  show ((lookN W (tabs W i) i i).1.set (hand W i) (rank W i + 1)).getD (hand W i) 0 = _
  rw [List.getD_eq_getElem?_getD, List.getElem?_set_self (by omega)]
  rfl
theorem lookN_mono {j : Nat} : ∀ m, m < j → ∀ g, (lookN W (tabs W j) j m).1.getD g 0 ≤ (lookN W (tabs W j) j (m + 1)).1.getD g 0 := fun m hm g => by
  rw [lookN_succ hm]
  split
  · show _ ≤ (mxV _ _).getD g 0
    rw [mxV_getD (by rw [lookN_8 m (by omega), tabAt_len])]
    exact Nat.le_max_left _ _
  · exact Nat.le_refl _
theorem known_all {j : Nat} (h8 : ∀ i, i < j → hand W i < 8) : ∀ m, m ≤ j → ∀ i, j - m ≤ i → i < j → stpAt W i j = true → rank W i < (lookN W (tabs W j) j m).1.getD (hand W i) 0
  | 0, _ => fun i h1 h2 _ => by omega
  | m + 1, hm => fun i h1 h2 hs => by
    by_cases z : j - m ≤ i
    · exact Nat.lt_of_lt_of_le (known_all h8 m (by omega) i z h2 hs) (lookN_mono m (by omega) _)
    · have e : j - 1 - m = i := by omega
      rw [lookN_succ (by omega), e]
      by_cases hc : (lookN W (tabs W j) j m).1.getD (hand W i) 0 ≤ rank W i
      · rw [if_pos ⟨hc, hs⟩]
        show _ < (mxV _ _).getD _ 0
        rw [mxV_getD (by rw [lookN_8 m (by omega), tabAt_len]), tabAt_own (h8 i h2)]
        exact Nat.lt_of_lt_of_le (Nat.lt_succ_self _) (Nat.le_max_right _ _)
      · rw [if_neg (fun k => hc k.1)]
        omega
/-- what is known lies below b if each table that was met does -/
theorem known_le {j : Nat} {b : Nat → Nat} : ∀ m, m ≤ j → (∀ i ∈ (lookN W (tabs W j) j m).2, ∀ g, (tabAt W i).getD g 0 ≤ b g) → (∀ i, i < j → hand W i = hand W j → ∀ g, (tabAt W i).getD g 0 ≤ b g) → ∀ g, (lookN W (tabs W j) j m).1.getD g 0 ≤ b g
  | 0, _, _, _ => fun g => by
    show (List.replicate 8 0).getD g 0 ≤ b g
    rw [List.getD_eq_getElem?_getD, List.getElem?_replicate]
    split <;> exact Nat.zero_le _
  | m + 1, hm, h1, h2 => fun g => by
    rw [lookN_succ (by omega)] at h1 ⊢
    split at h1
    · rename_i hc
      rw [if_pos hc]
      simp only at h1 ⊢
      rw [mxV_getD (by rw [lookN_8 m (by omega), tabAt_len])]
      refine Nat.max_le.mpr ⟨known_le m (by omega) (fun i hi => h1 i ?_) h2 g, ?_⟩
      · split
        · exact List.mem_append_left _ hi
        · exact hi
      · by_cases z : hand W (j - 1 - m) = hand W j
        · exact h2 _ (by omega) z g
        · rw [if_pos z] at h1
          exact h1 _ (List.mem_append_right _ (List.mem_singleton.mpr rfl)) g
    · rename_i hc
      rw [if_neg hc]
      exact known_le m (by omega) h1 h2 g
/-- the notes' members -/
theorem quads_mem : ∀ (n : Nat) (q : List Nat), q ∈ quads W n ↔ ∃ j, j < n ∧ ∃ i ∈ firstsAt W j, q = quadOf W j i
  | 0, q => ⟨fun h => (by cases h), fun ⟨j, h, _⟩ => (by omega)⟩
  | n + 1, q => by
    show q ∈ quads W n ++ (look W (tabs W n) n).2.map (quadOf W n) ↔ _
    rw [List.mem_append, quads_mem n q]
    constructor
    · rintro (⟨j, h, i, hi, e⟩ | h)
      · exact ⟨j, by omega, i, hi, e⟩
      · obtain ⟨i, hi, e⟩ := List.mem_map.mp h
        exact ⟨n, by omega, i, hi, e.symm⟩
    · rintro ⟨j, h, i, hi, e⟩
      rcases Nat.lt_or_ge j n with z | z
      · exact .inl ⟨j, z, i, hi, e⟩
      · have : j = n := by omega
        subst this
        exact .inr (List.mem_map.mpr ⟨i, hi, e.symm⟩)
theorem okB_iff {N : List (List Nat)} (hN : N.Perm (quads W W.length)) (nw : List Nat) (h : Nat) : okB N nw h = true ↔ ∀ j, j < W.length → hand W j = h → rank W j = nw.getD h 0 → ∀ i ∈ firstsAt W j, rank W i < nw.getD (hand W i) 0 := by
  unfold okB
  rw [List.all_eq_true]
  constructor
  · intro hk j hj e1 e2 i hi
    have hm : quadOf W j i ∈ N := hN.mem_iff.mpr ((quads_mem _ _).mpr ⟨j, hj, i, hi, rfl⟩)
    have := hk (hand W i, rank W i) (List.mem_map.mpr ⟨quadOf W j i, List.mem_filter.mpr ⟨hm, by show (hand W j == h && rank W j == nw.getD h 0) = true; rw [e1, e2]; simp⟩, rfl⟩)
    exact of_decide_eq_true this
  · intro hk p hp
    obtain ⟨q, hq, rfl⟩ := List.mem_map.mp hp
    obtain ⟨h1, h2⟩ := List.mem_filter.mp hq
    obtain ⟨j, hj, i, hi, rfl⟩ := (quads_mem _ _).mp (hN.mem_iff.mp h1)
    have h3 : (hand W j == h && rank W j == nw.getD h 0) = true := h2
    rw [Bool.and_eq_true] at h3
    exact decide_eq_true (hk j hj (beq_iff_eq.mp h3.1) (beq_iff_eq.mp h3.2) i hi)
theorem cntV_getD {w : List Nat} {m h : Nat} (hh : h < m) : (cntV w m).getD h 0 = w.count h := getD_of (cntV_at hh)
/-- the same by counts -/
def OkN (W : List Tw) (c : Nat → Nat) (h : Nat) : Prop := ∀ j, j < W.length → hand W j = h → rank W j = c h → ∀ i ∈ firstsAt W j, rank W i < c (hand W i)
theorem okB_cnt {N : List (List Nat)} (hN : N.Perm (quads W W.length)) {m : Nat} (hm : ∀ x ∈ W, x.1 < m) {w : List Nat} {h : Nat} (hh : h < m) : okB N (cntV w m) h = true ↔ OkN W (fun g => w.count g) h := by
  rw [okB_iff hN]
  unfold OkN
  constructor
  · intro hk j hj e1 e2 i hi
    have := hk j hj e1 (by rw [cntV_getD hh]; exact e2) i hi
    rw [cntV_getD (hand_lt hm (by have := (firsts_sound j (Nat.le_refl _) i hi).1; omega))] at this
    exact this
  · intro hk j hj e1 e2 i hi
    rw [cntV_getD hh] at e2
    rw [cntV_getD (hand_lt hm (by have := (firsts_sound j (Nat.le_refl _) i hi).1; omega))]
    exact hk j hj e1 e2 i hi
theorem keeps_iff {N : List (List Nat)} (hN : N.Perm (quads W W.length)) {m : Nat} (hm : ∀ x ∈ W, x.1 < m) {w : List Nat} (hw : ∀ h ∈ w, h < m) : keepsB m N w = true ↔ ∀ t, t < w.length → OkN W (fun g => (w.take t).count g) (w.getD t 0) := by
  unfold keepsB
  rw [List.all_eq_true]
  constructor
  · intro hk t ht
    exact (okB_cnt hN hm (hw _ (List.mem_of_getElem? (getD_at ht)))).mp (hk t (List.mem_range.mpr ht))
  · intro hk t ht
    rw [List.mem_range] at ht
    exact (okB_cnt hN hm (hw _ (List.mem_of_getElem? (getD_at ht)))).mpr (hk t ht)
/-- what was done has all its tables done -/
theorem closed (h8 : ∀ x ∈ W, x.1 < 8) {w : List Nat} (hk : ∀ t, t < w.length → OkN W (fun g => (w.take t).count g) (w.getD t 0)) : ∀ t, t ≤ w.length → ∀ j, j < W.length → rank W j < (w.take t).count (hand W j) → ∀ g, (tabAt W j).getD g 0 ≤ (w.take t).count g
  | 0, _ => fun j hj h => by simp at h
  | t + 1, ht => fun j hj h g => by
    have ih := closed h8 hk t (by omega)
    have gt := getD_at (by omega : t < w.length)
    rw [cnt_succ gt] at h ⊢
    by_cases z : rank W j < (w.take t).count (hand W j)
    · exact Nat.le_trans (ih j hj z g) (Nat.le_add_right _ _)
    · have hg : w.getD t 0 = hand W j := by
        by_cases y : w.getD t 0 = hand W j
        · exact y
        · rw [if_neg y] at h; omega
      rw [if_pos hg] at h
      have hr : rank W j = (w.take t).count (hand W j) := by omega
      have hkn := known_le (W := W) (j := j) (b := fun g => (w.take t).count g) j (Nat.le_refl _) (fun i hi => ih i (by have := (firsts_sound j (Nat.le_refl _) i hi).1; omega) (hk t (by omega) j hj hg.symm (by rw [hg]; exact hr) i hi))
        (fun i hi e => ih i (by omega) (by rw [e, ← hr]; exact rank_lt_of hi hj e))
      show ((lookN W (tabs W j) j j).1.set (hand W j) (rank W j + 1)).getD g 0 ≤ _
      rw [List.getD_eq_getElem?_getD, List.getElem?_set]
      by_cases y : hand W j = g
      · rw [if_pos y]
        subst y
        rw [if_pos hg, hr]
        split
        · exact Nat.le_refl _
        · exact Nat.zero_le _
      · rw [if_neg y, ← List.getD_eq_getElem?_getD]
        exact Nat.le_trans (hkn g) (Nat.le_add_right _ _)
theorem okN_okD (h8 : ∀ x ∈ W, x.1 < 8) {w : List Nat} : (∀ t, t < w.length → OkN W (fun g => (w.take t).count g) (w.getD t 0)) ↔ DD W w := by
  constructor
  · intro hk t ht i j hij hj hs e1 e2
    have ih := closed h8 hk t (by omega)
    have hkn := known_le (W := W) (j := j) (b := fun g => (w.take t).count g) j (Nat.le_refl _) (fun i hi => ih i (by have := (firsts_sound j (Nat.le_refl _) i hi).1; omega) (hk t ht j hj e1 e2 i hi))
      (fun i hi e => ih i (by omega) (by rw [e]; have := rank_lt_of hi hj e; rw [e1]; have e2' : rank W j = (w.take t).count (w.getD t 0) := e2; omega))
    exact Nat.lt_of_lt_of_le (known_all (fun i hi => hand_lt h8 (by omega)) j (Nat.le_refl _) i (by omega) hij hs) (hkn _)
  · intro hd t ht j hj e1 e2 i hi
    obtain ⟨a, b, _⟩ := firsts_sound j (Nat.le_refl _) i hi
    exact hd t ht i j a hj b e1 e2
theorem keeps_dd {N : List (List Nat)} (hN : N.Perm (quads W W.length)) {m : Nat} (hm : ∀ x ∈ W, x.1 < m) (h8 : m ≤ 8) {w : List Nat} (hw : ∀ h ∈ w, h < m) : keepsB m N w = true ↔ DD W w :=
  (keeps_iff hN hm hw).trans (okN_okD fun x hx => Nat.lt_of_lt_of_le (hm x hx) h8)
theorem keeps_kept {N : List (List Nat)} (hN : N.Perm (quads W W.length)) {m : Nat} (hm : ∀ x ∈ W, x.1 < m) (h8 : m ≤ 8) {w : List Nat} (hw : ∀ h ∈ w, h < m) (f : Full W w) : keepsB m N w = keptB W (places W w) := by
  have := (keeps_dd hN hm h8 hw).trans (kept_iff f).symm
  cases h1 : keepsB m N w <;> cases h2 : keptB W (places W w)
  · rfl
  · rw [h1, h2] at this; exact absurd (this.mpr rfl) (by decide)
  · rw [h1, h2] at this; exact absurd (this.mp rfl) (by decide)
  · rfl
end
end K72

set_option Elab.async false
set_option linter.all false
set_option maxRecDepth 100000
set_option maxHeartbeats 4000000
/-! a kept order's run gives each hand the same touches -/
namespace K72
open L2
/-- works without their past -/
abbrev Co := List Int × List Hn
def Co.turn (c : Co) (i : Nat) : Option (Co × Tc) :=
  match c.2[i]? with
  | none => none
  | some h => if h.way = .waits then some (((h.hit (c.1.getD h.cell 0)).2.wr c.1, c.2.set i (Hn.lead 60 (h.hit (c.1.getD h.cell 0)).1)), (h.hit (c.1.getD h.cell 0)).2) else none
def Co.run : Co → List Nat → Option (Co × List Tc)
  | c, [] => some (c, [])
  | c, i :: w =>
    match c.turn i with
    | none => none
    | some (c1, t) =>
      match Co.run c1 w with
      | none => none
      | some (c2, ts) => some (c2, t :: ts)
def Ws.core (s : Ws) : Co := (s.shared, s.team)
theorem Co.turn_some {c c' : Co} {i : Nat} {t : Tc} (e : c.turn i = some (c', t)) : ∃ h, c.2[i]? = some h ∧ h.way = .waits ∧ t = (h.hit (c.1.getD h.cell 0)).2 ∧ c' = (t.wr c.1, c.2.set i (Hn.lead 60 (h.hit (c.1.getD h.cell 0)).1)) := by
  unfold Co.turn at e
  cases q : c.2[i]? with
  | none => rw [q] at e; cases e
  | some h =>
    rw [q] at e
    simp only at e
    split at e
    · rename_i hw
      obtain ⟨rfl, rfl⟩ := Prod.mk.inj (Option.some.inj e)
      exact ⟨h, rfl, hw, rfl, rfl⟩
    · cases e
theorem Co.turn_of {c : Co} {i : Nat} {h : Hn} (e : c.2[i]? = some h) (w : h.way = .waits) : c.turn i = some (((h.hit (c.1.getD h.cell 0)).2.wr c.1, c.2.set i (Hn.lead 60 (h.hit (c.1.getD h.cell 0)).1)), (h.hit (c.1.getD h.cell 0)).2) := by
  unfold Co.turn
  rw [e]
  simp only
  rw [if_pos w]
theorem Ws.turn_core (s : Ws) (i : Nat) : s.turn i = (s.core.turn i).map fun p => (⟨p.1.1, p.1.2, s.past ++ [i]⟩, p.2) := by
  unfold Ws.turn Co.turn Ws.core
  cases s.team[i]? with
  | none => rfl
  | some h =>
    simp only
    split <;> rfl
theorem Ws.run_core : ∀ (w : List Nat) (s : Ws), s.run w = (s.core.run w).map fun p => (⟨p.1.1, p.1.2, s.past ++ w⟩, p.2)
  | [], s => by
    show some (s, []) = some (⟨s.shared, s.team, s.past ++ []⟩, [])
    rw [List.append_nil]
  | i :: w, s => by
    rw [Ws.run, Co.run, Ws.turn_core]
    cases s.core.turn i with
    | none => rfl
    | some p =>
      obtain ⟨c1, t⟩ := p
      simp only [Option.map_some]
      rw [Ws.run_core w]
      have e : Ws.core ⟨c1.1, c1.2, s.past ++ [i]⟩ = c1 := rfl
      rw [e]
      cases Co.run c1 w with
      | none => rfl
      | some q => simp [List.append_assoc]
theorem hit_cell (h : Hn) (x : Int) : (h.hit x).2.cell = h.cell := by
  unfold Hn.hit Hn.cell
  cases h.row <;> rfl
theorem hit_load (h : Hn) (x : Int) (e : (h.hit x).2.kind = .load) : (h.hit x).2.put = none := by
  unfold Hn.hit at e ⊢
  cases hr : h.row <;> rw [hr] at e <;> first | rfl | exact Kd.noConfusion e
theorem wr_ne {t : Tc} {sh : List Int} {c : Nat} (h : t.cell ≠ c ∨ t.put = none) : (t.wr sh).getD c 0 = sh.getD c 0 := by
  unfold Tc.wr
  cases e : t.put with
  | none => rfl
  | some v =>
    rcases h with h | h
    · rw [List.getD_eq_getElem?_getD, List.getElem?_set_ne h, List.getD_eq_getElem?_getD]
    · rw [e] at h; cases h
theorem wr_comm {t u : Tc} {sh : List Int} (h : t.cell ≠ u.cell ∨ (t.put = none ∧ u.put = none)) : t.wr (u.wr sh) = u.wr (t.wr sh) := by
  unfold Tc.wr
  cases e : t.put with
  | none => rfl
  | some v =>
    cases e2 : u.put with
    | none => rfl
    | some y =>
      rcases h with h | h
      · exact List.set_comm y v (Ne.symm h)
      · rw [e] at h; cases h.1
/-- two touches that have nothing to do with each other -/
def indep (a b : Nat) (t u : Tc) : Prop := a ≠ b ∧ (t.cell ≠ u.cell ∨ (t.kind = .load ∧ u.kind = .load))
theorem Co.swap {c c1 c2 : Co} {a b : Nat} {t u : Tc} (h1 : c.turn a = some (c1, t)) (h2 : c1.turn b = some (c2, u)) (hi : indep a b t u) : ∃ c1', c.turn b = some (c1', u) ∧ c1'.turn a = some (c2, t) := by
  obtain ⟨hab, hcell⟩ := hi
  obtain ⟨h, eh, wh, et, ec⟩ := Co.turn_some h1
  obtain ⟨g, eg, wg, eu, ec2⟩ := Co.turn_some h2
  subst ec
  have eg0 : c.2[b]? = some g := by
    have z : (c.2.set a _)[b]? = some g := eg
    rw [List.getElem?_set_ne hab] at z
    exact z
  have tc : t.cell = h.cell := by rw [et]; exact hit_cell _ _
  have uc : u.cell = g.cell := by rw [eu]; exact hit_cell _ _
  have tput : t.cell ≠ u.cell ∨ (t.put = none ∧ u.put = none) := by
    rcases hcell with z | ⟨z1, z2⟩
    · exact .inl z
    · exact .inr ⟨by rw [et] at z1 ⊢; exact hit_load _ _ z1, by rw [eu] at z2 ⊢; exact hit_load _ _ z2⟩
  have ey : (t.wr c.1).getD g.cell 0 = c.1.getD g.cell 0 := wr_ne (by
    rcases tput with z | z
    · left; rw [← uc]; exact z
    · exact .inr z.1)
  have eu' : u = (g.hit (c.1.getD g.cell 0)).2 := by rw [eu]; show (g.hit ((t.wr c.1).getD g.cell 0)).2 = _; rw [ey]
  have ex : (u.wr c.1).getD h.cell 0 = c.1.getD h.cell 0 := wr_ne (by
    rcases tput with z | z
    · left; rw [← tc]; exact fun k => z k.symm
    · exact .inr z.2)
  refine ⟨(u.wr c.1, c.2.set b (Hn.lead 60 (g.hit (c.1.getD g.cell 0)).1)), by rw [Co.turn_of eg0 wg, ← eu'], ?_⟩
  have eh0 : (c.2.set b (Hn.lead 60 (g.hit (c.1.getD g.cell 0)).1))[a]? = some h := by rw [List.getElem?_set_ne (Ne.symm hab)]; exact eh
  rw [Co.turn_of (c := (u.wr c.1, c.2.set b (Hn.lead 60 (g.hit (c.1.getD g.cell 0)).1))) eh0 wh]
  show some ((((h.hit ((u.wr c.1).getD h.cell 0)).2.wr (u.wr c.1)), ((c.2.set b (Hn.lead 60 (g.hit (c.1.getD g.cell 0)).1)).set a (Hn.lead 60 (h.hit ((u.wr c.1).getD h.cell 0)).1))), (h.hit ((u.wr c.1).getD h.cell 0)).2) = _
  rw [ex, ← et, ec2]
  show some ((t.wr (u.wr c.1), _), t) = some ((u.wr (t.wr c.1), (c.2.set a (Hn.lead 60 (h.hit (c.1.getD h.cell 0)).1)).set b (Hn.lead 60 (g.hit ((t.wr c.1).getD g.cell 0)).1)), t)
  rw [ey, wr_comm tput, List.set_comm _ _ hab]
theorem Co.run_cons {c c2 : Co} {i : Nat} {w : List Nat} {ts : List Tc} (e : c.run (i :: w) = some (c2, ts)) : ∃ c1 t ts', c.turn i = some (c1, t) ∧ c1.run w = some (c2, ts') ∧ ts = t :: ts' := by
  unfold Co.run at e
  cases h : c.turn i with
  | none => rw [h] at e; cases e
  | some p =>
    obtain ⟨c1, t⟩ := p
    rw [h] at e
    simp only at e
    cases h2 : c1.run w with
    | none => rw [h2] at e; cases e
    | some q =>
      obtain ⟨c3, ts'⟩ := q
      rw [h2] at e
      obtain ⟨rfl, rfl⟩ := Prod.mk.inj (Option.some.inj e)
      exact ⟨c1, t, ts', rfl, h2, rfl⟩
theorem Co.run_of {c c1 c2 : Co} {i : Nat} {t : Tc} {w : List Nat} {ts : List Tc} (e : c.turn i = some (c1, t)) (e2 : c1.run w = some (c2, ts)) : c.run (i :: w) = some (c2, t :: ts) := by
  show (match c.turn i with | none => none | some (c1, t) => _) = _
  rw [e]
  simp only
  rw [e2]
section
variable {hd : Nat → Nat} {T : Nat → Tc}
/-- what is independent of all before it may come first -/
theorem Co.front {j : Nat} : ∀ (A B : List Nat) (c c' : Co), (∀ a ∈ A, indep (hd a) (hd j) (T a) (T j)) → c.run ((A ++ j :: B).map hd) = some (c', (A ++ j :: B).map T) → c.run ((j :: (A ++ B)).map hd) = some (c', (j :: (A ++ B)).map T)
  | [], B, c, c', _, h => h
  | a :: A, B, c, c', hi, h => by
    obtain ⟨c1, t, ts, h1, h2, h3⟩ := Co.run_cons (i := hd a) (w := (A ++ j :: B).map hd) h
    have e3 : T a = t ∧ (A ++ j :: B).map T = ts := by
      have : T a :: (A ++ j :: B).map T = t :: ts := h3
      injection this with x y
      exact ⟨x, y⟩
    obtain ⟨rfl, rfl⟩ := e3
    have ih := Co.front A B c1 c' (fun x hx => hi x (List.mem_cons_of_mem _ hx)) h2
    obtain ⟨c2, u, us, g1, g2, g3⟩ := Co.run_cons (i := hd j) (w := (A ++ B).map hd) ih
    have e4 : T j = u ∧ (A ++ B).map T = us := by
      have : T j :: (A ++ B).map T = u :: us := g3
      injection this with x y
      exact ⟨x, y⟩
    obtain ⟨rfl, rfl⟩ := e4
    obtain ⟨c1', k1, k2⟩ := Co.swap h1 g1 (hi a (List.mem_cons_self ..))
    exact Co.run_of (i := hd j) (w := (a :: (A ++ B)).map hd) k1 (Co.run_of (i := hd a) (w := (A ++ B).map hd) k2 g2)
/-- another order of the same items, what depends on each other in the old order -/
theorem Co.reorder : ∀ (J I : List Nat) (c c' : Co), J.Perm I → I.Nodup → (∀ i j, [i, j].Sublist I → ¬ indep (hd i) (hd j) (T i) (T j) → [i, j].Sublist J) → c.run (I.map hd) = some (c', I.map T) → c.run (J.map hd) = some (c', J.map T)
  | [], I, c, c', hp, _, _, h => by
    have : I = [] := hp.symm.eq_nil
    subst this
    exact h
  | j :: J, I, c, c', hp, hn, hs, h => by
    obtain ⟨A, B, rfl, hp2⟩ := perm_split hp
    have hnj : (j :: J).Nodup := hp.nodup_iff.mpr hn
    rw [List.nodup_cons] at hnj
    have hA : ∀ a ∈ A, indep (hd a) (hd j) (T a) (T j) := fun a ha => by
      refine Classical.byContradiction fun hni => ?_
      have hsub : [a, j].Sublist (A ++ j :: B) := List.Sublist.append (List.singleton_sublist.mpr ha) (List.Sublist.cons_cons j (List.nil_sublist B))
      have h2 := hs a j hsub hni
      rcases List.sublist_cons_iff.mp h2 with h3 | ⟨r, e, h3⟩
      · exact hnj.1 (h3.subset (by simp))
      · injection e with e1 e2
        subst e2
        exact hnj.1 (h3.subset (by simp))
    have hf := Co.front A B c c' hA h
    obtain ⟨c1, t, ts, h1, h2, h3⟩ := Co.run_cons (i := hd j) (w := (A ++ B).map hd) hf
    have e3 : T j = t ∧ (A ++ B).map T = ts := by
      have : T j :: (A ++ B).map T = t :: ts := h3
      injection this with x y
      exact ⟨x, y⟩
    obtain ⟨rfl, rfl⟩ := e3
    have hsubI : (A ++ B).Sublist (A ++ j :: B) := List.Sublist.append (List.Sublist.refl _) (List.sublist_cons_self j B)
    have hjn : j ∉ A ++ B := fun hm => by
      rw [List.nodup_append] at hn
      obtain ⟨_, n2, n3⟩ := hn
      rw [List.nodup_cons] at n2
      rcases List.mem_append.mp hm with hm | hm
      · exact n3 j hm j (by simp) rfl
      · exact n2.1 hm
    refine Co.run_of (i := hd j) (w := J.map hd) h1 (Co.reorder J (A ++ B) c1 c' hp2 (hn.sublist hsubI) (fun i k hik hni => ?_) h2)
    have h4 := hs i k (hik.trans hsubI) hni
    rcases List.sublist_cons_iff.mp h4 with h5 | ⟨r, e, h5⟩
    · exact h5
    · injection e with e1 e2
      exact absurd (hik.subset (by simp : i ∈ [i, k])) (by rw [e1]; exact hjn)
end
end K72

set_option Elab.async false
set_option linter.all false
set_option maxRecDepth 100000
set_option maxHeartbeats 4000000
/-! a kept order's run gives each hand the same touches: the end -/
namespace K72
open L2
theorem sub_of {l : List Nat} : ∀ {a b : Nat} {x y : Nat}, a < b → l[a]? = some x → l[b]? = some y → [x, y].Sublist l := by
  induction l with
  | nil => intro a b x y _ h; simp at h
  | cons z l ih =>
    intro a b x y hab h1 h2
    cases b with
    | zero => omega
    | succ b =>
      rw [List.getElem?_cons_succ] at h2
      cases a with
      | zero =>
        rw [List.getElem?_cons_zero] at h1
        cases h1
        exact List.Sublist.cons_cons z (List.singleton_sublist.mpr (List.mem_of_getElem? h2))
      | succ a =>
        rw [List.getElem?_cons_succ] at h1
        exact List.Sublist.cons z (ih (by omega) h1 h2)
theorem map_getD {α : Type} (d : α) : ∀ l : List α, (List.range l.length).map (fun i => l.getD i d) = l
  | [] => rfl
  | x :: l => by
    rw [List.length_cons, List.range_succ_eq_map, List.map_cons, List.map_map]
    have := map_getD d l
    conv => rhs; rw [← this]
    rfl
theorem zip_map2 {hd : Nat → Nat} {T : Nat → Tc} (h : Nat) : ∀ J : List Nat, (((J.map hd).zip (J.map T)).filter fun q => q.1 == h).map Prod.snd = (J.filter fun i => hd i == h).map T
  | [] => rfl
  | j :: J => by
    rw [List.map_cons, List.map_cons, List.zip_cons_cons, List.filter_cons, List.filter_cons]
    by_cases z : (hd j == h) = true
    · rw [if_pos z, if_pos z, List.map_cons, List.map_cons, zip_map2 h J]
    · rw [if_neg z, if_neg z, zip_map2 h J]
theorem webL_at' {ord : List Nat} {ts : List Tc} {i : Nat} (hl : ts.length = ord.length) (hi : i < ord.length) : (webL ord ts)[i]? = some (ord.getD i 0, (ts.getD i ⟨.load, 0, none, none⟩).kind, (ts.getD i ⟨.load, 0, none, none⟩).cell) := by
  refine webL_take ord ts i (getD_at hi) ?_
  rw [List.getD_eq_getElem?_getD, List.getElem?_eq_getElem (by omega)]
  rfl
theorem same_touches {s s' : Ws} {ord w : List Nat} {ts : List Tc} (m : Nat) (hrun : s.run ord = some (s', ts)) (hl : ts.length = ord.length) (f : Full (webL ord ts) w) (hk : keptB (webL ord ts) (places (webL ord ts) w) = true) :
    ∃ s'' us, s.run w = some (s'', us) ∧ perHand m w us = perHand m ord ts := by
  have hWl : (webL ord ts).length = ord.length := webL_len hl
  have hwl := f.len
  have hd' : ∀ i, i < ord.length → hand (webL ord ts) i = ord.getD i 0 := fun i hi => hand_of_at (webL_at' hl hi)
  have ei : (List.range ord.length).map (fun i => ord.getD i 0) = ord := map_getD 0 ord
  have et : (List.range ord.length).map (fun i => ts.getD i ⟨.load, 0, none, none⟩) = ts := by rw [← hl]; exact map_getD _ ts
  have ew : (places (webL ord ts) w).map (fun i => ord.getD i 0) = w := by
    unfold places
    rw [List.map_map]
    conv => rhs; rw [← map_getD 0 w]
    refine List.map_congr_left fun t ht => ?_
    rw [List.mem_range] at ht
    obtain ⟨p1, p2, _⟩ := placeAt_spec f ht
    show ord.getD (placeAt (webL ord ts) w t) 0 = _
    rw [← hd' _ (by omega), p2]
  have hperm := places_perm f
  rw [hWl] at hperm
  rw [Ws.run_core] at hrun
  cases hc : s.core.run ord with
  | none => rw [hc] at hrun; cases hrun
  | some q =>
    obtain ⟨c', ts'⟩ := q
    rw [hc] at hrun
    have ets : ts' = ts := (Prod.mk.inj (Option.some.inj hrun)).2
    subst ets
    have hc2 : s.core.run ((List.range ord.length).map fun i => ord.getD i 0) = some (c', (List.range ord.length).map fun i => ts'.getD i ⟨.load, 0, none, none⟩) := by rw [ei, et]; exact hc
    have hre := Co.reorder (places (webL ord ts') w) (List.range ord.length) s.core c' hperm List.nodup_range (fun i j hij hni => ?_) hc2
    · rw [ew] at hre
      refine ⟨⟨c'.1, c'.2, s.past ++ w⟩, _, by rw [Ws.run_core, hre] <;> rfl, ?_⟩
      unfold perHand
      refine List.map_congr_left fun h _ => ?_
      have e1 := zip_map2 (hd := fun i => ord.getD i 0) (T := fun i => ts'.getD i ⟨.load, 0, none, none⟩) h (places (webL ord ts') w)
      have e2 := zip_map2 (hd := fun i => ord.getD i 0) (T := fun i => ts'.getD i ⟨.load, 0, none, none⟩) h (List.range ord.length)
      rw [ew] at e1
      rw [ei, et] at e2
      rw [e1, e2]
      congr 1
      refine List.Perm.eq_of_pairwise (le := (· < ·)) (fun a b _ _ h1 h2 => by omega) ?_ (List.Pairwise.sublist List.filter_sublist List.pairwise_lt_range) (hperm.filter _)
      rw [List.pairwise_filter]
      refine List.pairwise_iff_getElem.mpr fun a b ha hb hab h1 h2 => ?_
      rw [places_len] at ha hb
      have g1 := places_at (W := webL ord ts') ha
      have g2 := places_at (W := webL ord ts') hb
      rw [List.getElem?_eq_getElem (by rw [places_len]; exact ha)] at g1
      rw [List.getElem?_eq_getElem (by rw [places_len]; exact hb)] at g2
      have q1 := Option.some.inj g1
      have q2 := Option.some.inj g2
      rw [q1] at h1 ⊢
      rw [q2] at h2 ⊢
      obtain ⟨a1, a2, a3⟩ := placeAt_spec f ha
      obtain ⟨b1, b2, b3⟩ := placeAt_spec f hb
      have eh1 : hand (webL ord ts') (placeAt (webL ord ts') w a) = h := by rw [hd' _ (by omega)]; exact beq_iff_eq.mp h1
      have eh2 : hand (webL ord ts') (placeAt (webL ord ts') w b) = h := by rw [hd' _ (by omega)]; exact beq_iff_eq.mp h2
      have gw : w[a]? = some h := by rw [getD_at ha, ← a2, eh1]
      have hlt := cnt_lt gw hab
      rw [← a2, eh1] at a3
      rw [← b2, eh2] at b3
      rcases Nat.lt_trichotomy (placeAt (webL ord ts') w a) (placeAt (webL ord ts') w b) with z | z | z
      · exact z
      · rw [z] at a3; omega
      · have := rank_lt_of z a1 (eh2.trans eh1.symm); omega
    · have hm := hij.subset
      have hj : j < ord.length := List.mem_range.mp (hm (by simp))
      have hi : i < ord.length := List.mem_range.mp (hm (by simp))
      have hlt : i < j := by
        have := List.Pairwise.sublist hij List.pairwise_lt_range
        simpa using this
      have hs : stpAt (webL ord ts') i j = true := by
        rw [stpAt_of (webL_at' hl hi) (webL_at' hl hj)]
        unfold stp
        refine Classical.byContradiction fun hn => hni ?_
        rw [Bool.not_eq_true, Bool.or_eq_false_iff, Bool.and_eq_false_iff, Bool.or_eq_false_iff] at hn
        refine ⟨beq_eq_false_iff_ne.mp hn.1, ?_⟩
        rcases hn.2 with z | ⟨z1, z2⟩
        · exact .inl (beq_eq_false_iff_ne.mp z)
        · exact .inr ⟨by simpa using z1, by simpa using z2⟩
      unfold keptB at hk
      have h1 := List.all_eq_true.mp (List.all_eq_true.mp hk j (List.mem_range.mpr (by omega))) i (List.mem_range.mpr hlt)
      rw [hs, Bool.and_true, Bool.not_eq_true', decide_eq_false_iff_not] at h1
      have mi : i ∈ places (webL ord ts') w := hperm.mem_iff.mpr (List.mem_range.mpr hi)
      have mj : j ∈ places (webL ord ts') w := hperm.mem_iff.mpr (List.mem_range.mpr hj)
      have l1 := List.idxOf_lt_length_iff.mpr mi
      have l2 := List.idxOf_lt_length_iff.mpr mj
      have g1 : (places (webL ord ts') w)[(places (webL ord ts') w).idxOf i]? = some i := by rw [List.getElem?_eq_getElem l1, List.getElem_idxOf l1]
      have g2 : (places (webL ord ts') w)[(places (webL ord ts') w).idxOf j]? = some j := by rw [List.getElem?_eq_getElem l2, List.getElem_idxOf l2]
      have hne : (places (webL ord ts') w).idxOf i ≠ (places (webL ord ts') w).idxOf j := fun e => by
        rw [e, g2] at g1
        have := Option.some.inj g1
        omega
      exact sub_of (by omega) g1 g2
end K72

set_option Elab.async false
set_option linter.all false
set_option maxRecDepth 100000
set_option maxHeartbeats 4000000
/-! kept words, letter by letter; the first of them -/
namespace K72
open L2
theorem sum_le_eq : ∀ (a b : List Nat), a.length = b.length → (∀ i : Nat, a.getD i 0 ≤ b.getD i 0) → b.sum ≤ a.sum → a = b
  | [], [], _, _, _ => rfl
  | [], _ :: _, h, _, _ => by cases h
  | _ :: _, [], h, _, _ => by cases h
  | x :: a, y :: b, hl, h, hs => by
    have le : ∀ (a b : List Nat), a.length = b.length → (∀ i : Nat, a.getD i 0 ≤ b.getD i 0) → a.sum ≤ b.sum := by
      intro a
      induction a with
      | nil => intro b _ _; exact Nat.zero_le _
      | cons x a ih =>
        intro b hl h
        cases b with
        | nil => cases hl
        | cons y b =>
          have h0 : x ≤ y := h 0
          have := ih b (Nat.succ.inj hl) fun i => h (i + 1)
          rw [List.sum_cons, List.sum_cons]
          omega
    have h0 : x ≤ y := h 0
    have h1 := le a b (Nat.succ.inj hl) fun i => h (i + 1)
    rw [List.sum_cons, List.sum_cons] at hs
    have e : x = y := by omega
    rw [e, sum_le_eq a b (Nat.succ.inj hl) (fun i => h (i + 1)) (by omega)]
theorem sum_range_count (m : Nat) : ∀ l : List Nat, (∀ x ∈ l, x < m) → (cntV l m).sum = l.length
  | [], _ => by
    rw [cntV_nil]
    have : ∀ n, (List.replicate n 0).sum = 0 := fun n => by
      induction n with
      | zero => rfl
      | succ n ih => rw [List.replicate_succ, List.sum_cons, ih]
    rw [this]
    rfl
  | x :: l, h => by
    have ih := sum_range_count m l fun y hy => h y (List.mem_cons_of_mem _ hy)
    have hx := h x (List.mem_cons_self ..)
    have key : ∀ (k : Nat) (f : Nat → Nat), ((List.range k).map fun g => f g + if x = g then 1 else 0).sum = ((List.range k).map f).sum + if x < k then 1 else 0 := by
      intro k f
      induction k with
      | zero => rfl
      | succ k ihk =>
        rw [List.range_succ, List.map_append, List.map_append, List.sum_append, List.sum_append, ihk, List.map_cons, List.map_cons, List.map_nil, List.map_nil, List.sum_cons, List.sum_cons, List.sum_nil]
        by_cases z : x = k
        · subst z
          rw [if_pos rfl, if_neg (Nat.lt_irrefl _), if_pos (Nat.lt_succ_self _)]
          omega
        · rw [if_neg z]
          by_cases y : x < k
          · rw [if_pos y, if_pos (by omega)]; omega
          · rw [if_neg y, if_neg (by omega)]; omega
    have e : cntV (x :: l) m = (List.range m).map fun g => l.count g + if x = g then 1 else 0 := by
      unfold cntV
      refine List.map_congr_left fun g _ => ?_
      rw [List.count_cons]
      simp
    rw [e, key, if_pos hx]
    show (cntV l m).sum + 1 = _
    rw [ih]
    rfl
theorem least {P : Nat → Prop} : ∀ j, P j → ∃ i, P i ∧ ∀ k, k < i → ¬ P k := fun j => by
  induction j using Nat.strongRecOn with
  | ind j ih =>
    intro h
    by_cases z : ∃ k, k < j ∧ P k
    · obtain ⟨k, hk, hp⟩ := z
      exact ih k hk hp
    · exact ⟨j, h, fun k hk hp => z ⟨k, hk, hp⟩⟩
/-- a word of hands below m, none more often than the web has it -/
structure Wrd (cs : List Nat) (o : List Nat) : Prop where
  lt : ∀ h ∈ o, h < cs.length
  le : ∀ h, h < cs.length → o.count h ≤ cs.getD h 0
theorem ordersN_ok {cs : List Nat} : ∀ k, ∀ o ∈ ordersN cs k, Wrd cs o
  | 0 => fun o h => by
    rw [List.mem_singleton.mp h]
    exact ⟨fun x hx => (by cases hx), fun x _ => Nat.zero_le _⟩
  | k + 1 => fun o h => by
    obtain ⟨o', h1, h2⟩ := List.mem_flatMap.mp h
    obtain ⟨g, hg, rfl⟩ := List.mem_map.mp h2
    obtain ⟨hg1, hg2⟩ := List.mem_filter.mp hg
    rw [List.mem_range] at hg1
    have hg3 := of_decide_eq_true hg2
    obtain ⟨a, b⟩ := ordersN_ok k o' h1
    refine ⟨fun x hx => ?_, fun x hx => ?_⟩
    · rcases List.mem_append.mp hx with hx | hx
      · exact a x hx
      · rw [List.mem_singleton.mp hx]; exact hg1
    · rw [List.count_append, List.count_cons]
      by_cases z : g = x
      · subst z
        rw [if_pos (beq_self_eq_true g), List.count_nil]
        omega
      · have : (g == x) = false := beq_eq_false_iff_ne.mpr z
        rw [this]
        simpa using b x hx
section
variable {W : List Tw} {m : Nat} {N : List (List Nat)}
def csOf (W : List Tw) (m : Nat) : List Nat := cntV (W.map Prod.fst) m
theorem csOf_len : (csOf W m).length = m := cntV_len _ _
theorem csOf_getD {h : Nat} (hh : h < m) : (csOf W m).getD h 0 = (W.map Prod.fst).count h := cntV_getD hh
theorem csOf_sum (hm : ∀ x ∈ W, x.1 < m) : (csOf W m).sum = W.length := by
  unfold csOf
  rw [sum_range_count m _ (fun x hx => by obtain ⟨y, hy, rfl⟩ := List.mem_map.mp hx; exact hm y hy), List.length_map]
theorem word_full (hm : ∀ x ∈ W, x.1 < m) {o : List Nat} (w : Wrd (csOf W m) o) (hl : o.length = W.length) : Full W o := by
  obtain ⟨h1, h2⟩ := w
  rw [csOf_len] at h1 h2
  have e : cntV o m = csOf W m := by
    refine sum_le_eq _ _ (by rw [cntV_len, csOf_len]) (fun i => ?_) (by rw [csOf_sum hm, sum_range_count m o h1, hl] <;> exact Nat.le_refl _)
    by_cases z : i < m
    · rw [cntV_getD z]
      exact h2 i z
    · rw [List.getD_eq_getElem?_getD, List.getElem?_eq_none_iff.mpr (by rw [cntV_len]; omega)]
      exact Nat.zero_le _
  intro h
  by_cases z : h < m
  · have this : (cntV o m).getD h 0 = (csOf W m).getD h 0 := by rw [e]
    rw [cntV_getD z, csOf_getD z] at this
    exact this
  · rw [List.count_eq_zero.mpr (fun k => z (h1 h k)), List.count_eq_zero.mpr (fun k => ?_)]
    obtain ⟨y, hy, rfl⟩ := List.mem_map.mp k
    exact z (hm y hy)
/-- as long as touches are missing, a hand is ready -/
theorem progress (hN : N.Perm (quads W W.length)) (hm : ∀ x ∈ W, x.1 < m) {o : List Nat} (w : Wrd (csOf W m) o) (hl : o.length < W.length) : readyL (csOf W m) N (cntV o m) ≠ [] := by
  obtain ⟨h1, h2⟩ := w
  rw [csOf_len] at h1 h2
  have hex : ∃ j, j < W.length ∧ o.count (hand W j) ≤ rank W j := by
    refine Classical.byContradiction fun hn => ?_
    have hall : ∀ j, j < W.length → rank W j < o.count (hand W j) := fun j hj => Nat.lt_of_not_le fun k => hn ⟨j, hj, k⟩
    have hle : (csOf W m).sum ≤ (cntV o m).sum := by
      have e : csOf W m = cntV o m := by
        refine List.ext_getElem? fun h => ?_
        by_cases z : h < m
        · unfold csOf
          rw [cntV_at z, cntV_at z]
          congr 1
          have := h2 h z
          rw [csOf_getD z] at this
          rcases Nat.lt_or_ge (o.count h) ((W.map Prod.fst).count h) with y | y
          · obtain ⟨j, hj, e1, e2⟩ := rank_ex y
            have := hall j hj
            rw [e1, e2] at this
            omega
          · omega
        · rw [List.getElem?_eq_none_iff.mpr (by rw [csOf_len]; omega), List.getElem?_eq_none_iff.mpr (by rw [cntV_len]; omega)]
      rw [e]
      exact Nat.le_refl _
    rw [csOf_sum hm, sum_range_count m o h1] at hle
    omega
  obtain ⟨j0, hj0⟩ := hex
  obtain ⟨j, ⟨hj, hr⟩, hmin⟩ := least (P := fun j => j < W.length ∧ o.count (hand W j) ≤ rank W j) j0 hj0
  have hdone : ∀ i, i < j → rank W i < o.count (hand W i) := fun i hi => Nat.lt_of_not_le fun k => hmin i hi ⟨by omega, k⟩
  have hhm := hand_lt hm hj
  have hreq : rank W j = o.count (hand W j) := by
    rcases Nat.lt_or_ge (o.count (hand W j)) (rank W j) with y | y
    · obtain ⟨i, hi, e1, e2⟩ := rank_ex (W := W) (Nat.lt_trans y (rank_tot hj))
      have hij : i < j := by
        rcases Nat.lt_trichotomy i j with z | z | z
        · exact z
        · subst z; omega
        · have := rank_lt_of z hi e1.symm; omega
      have := hdone i hij
      rw [e1, e2] at this
      omega
    · omega
  have hmem : hand W j ∈ readyL (csOf W m) N (cntV o m) := by
    refine List.mem_filter.mpr ⟨List.mem_filter.mpr ⟨List.mem_range.mpr (by rw [csOf_len]; exact hhm), decide_eq_true ?_⟩, ?_⟩
    · rw [cntV_getD hhm, csOf_getD hhm, ← hreq]
      exact rank_tot hj
    · refine (okB_cnt hN hm hhm).mpr fun j' hj' e1 e2 i hi => ?_
      have : j' = j := name_inj hj' hj e1 (by rw [e2, hreq])
      subst this
      exact hdone i (firsts_sound _ (Nat.le_refl _) i hi).1
  intro e
  rw [e] at hmem
  cases hmem
def KK (W : List Tw) (m : Nat) (N : List (List Nat)) (k : Nat) : List (List Nat) := (ordersN (csOf W m) k).filter (keepsB m N)
theorem keepsB_snoc (o : List Nat) (h : Nat) : keepsB m N (o ++ [h]) = (keepsB m N o && okB N (cntV o m) h) := by
  unfold keepsB
  rw [List.length_append]
  show (List.range (o.length + 1)).all _ = _
  rw [List.range_succ, List.all_append]
  congr 1
  · refine Bool.eq_iff_iff.mpr ?_
    rw [List.all_eq_true, List.all_eq_true]
    have e : ∀ t ∈ List.range o.length, okB N (cntV ((o ++ [h]).take t) m) ((o ++ [h]).getD t 0) = okB N (cntV (o.take t) m) (o.getD t 0) := fun t ht => by
      rw [List.mem_range] at ht
      rw [List.take_append_of_le_length (by omega), List.getD_eq_getElem?_getD, List.getElem?_append_left ht, List.getD_eq_getElem?_getD]
    exact ⟨fun k t ht => by rw [← e t ht]; exact k t ht, fun k t ht => by rw [e t ht]; exact k t ht⟩
  · rw [List.all_cons, List.all_nil, Bool.and_true, List.take_append_of_le_length (Nat.le_refl _), List.take_length, List.getD_eq_getElem?_getD, List.getElem?_append_right (Nat.le_refl _), Nat.sub_self]
    rfl
theorem flatMap_if {α β : Type} (p : α → Bool) (g : α → List β) : ∀ l : List α, l.flatMap (fun o => if p o = true then g o else []) = (l.filter p).flatMap g
  | [] => rfl
  | x :: l => by
    rw [List.flatMap_cons, flatMap_if p g l, List.filter_cons]
    by_cases z : p x = true
    · rw [if_pos z, if_pos z, List.flatMap_cons]
    · rw [if_neg z, if_neg z, List.nil_append]
theorem KK_succ (k : Nat) : KK W m N (k + 1) = (KK W m N k).flatMap fun o => (readyL (csOf W m) N (cntV o m)).map fun h => o ++ [h] := by
  unfold KK
  show ((ordersN (csOf W m) k).flatMap (extO (csOf W m))).filter (keepsB m N) = _
  rw [List.filter_flatMap, ← flatMap_if]
  congr 1
  funext o
  unfold extO
  rw [List.filter_map]
  have e1 : (keepsB m N ∘ fun h => o ++ [h]) = fun h => keepsB m N o && okB N (cntV o m) h := funext fun h => keepsB_snoc o h
  rw [e1]
  cases hk : keepsB m N o with
  | false =>
    rw [if_neg (by decide)]
    have : ∀ l : List Nat, l.filter (fun h => false && okB N (cntV o m) h) = [] := fun l => List.filter_eq_nil_iff.mpr fun a _ => by simp
    rw [this]
    rfl
  | true =>
    rw [if_pos rfl]
    unfold readyL
    congr 1
    have e2 : (fun h => true && okB N (cntV o m) h) = fun h => okB N (cntV o m) h := funext fun h => Bool.true_and _
    rw [e2]
    congr 1
    refine List.filter_congr fun h hh => ?_
    rw [List.mem_range, csOf_len] at hh
    rw [cntV_getD hh]
theorem KK_word {k : Nat} {o : List Nat} (h : o ∈ KK W m N k) : Wrd (csOf W m) o ∧ o.length = k := ⟨ordersN_ok k o (List.mem_filter.mp h).1, ordersN_word k o (List.mem_filter.mp h).1⟩
theorem KK_zero : KK W m N 0 = [[]] := rfl
theorem KK_head (hN : N.Perm (quads W W.length)) (hm : ∀ x ∈ W, x.1 < m) : ∀ k, k ≤ W.length → ∃ r, KK W m N k = greedy (csOf W m) N k :: r
  | 0, _ => ⟨[], rfl⟩
  | k + 1, hk => by
    obtain ⟨r, e⟩ := KK_head hN hm k (by omega)
    obtain ⟨w, hl⟩ := KK_word (W := W) (m := m) (N := N) (k := k) (o := greedy (csOf W m) N k) (by rw [e]; exact List.mem_cons_self ..)
    have hp := progress hN hm w (by omega)
    rw [KK_succ, e, List.flatMap_cons]
    show ∃ r', _ = (greedy (csOf W m) N k ++ [(readyL (csOf W m) N (cntV (greedy (csOf W m) N k) (csOf W m).length)).headD 0]) :: r'
    rw [csOf_len]
    cases hR : readyL (csOf W m) N (cntV (greedy (csOf W m) N k) m) with
    | nil => exact absurd hR hp
    | cons x xs => exact ⟨_, by rw [List.map_cons, List.cons_append] <;> rfl⟩
theorem greedy_prog (hN : N.Perm (quads W W.length)) (hm : ∀ x ∈ W, x.1 < m) {k : Nat} (hk : k < W.length) : readyL (csOf W m) N (cntV (greedy (csOf W m) N k) (csOf W m).length) ≠ [] := by
  obtain ⟨r, e⟩ := KK_head hN hm k (by omega)
  obtain ⟨w, hl⟩ := KK_word (W := W) (m := m) (N := N) (k := k) (o := greedy (csOf W m) N k) (by rw [e]; exact List.mem_cons_self ..)
  rw [csOf_len]
  exact progress hN hm w (by omega)
/-- every kept word goes on to a whole one -/
theorem KK_extend (hN : N.Perm (quads W W.length)) (hm : ∀ x ∈ W, x.1 < m) : ∀ (d k : Nat) (o : List Nat), k + d = W.length → o ∈ KK W m N k → ∃ w ∈ KK W m N W.length, w.take k = o
  | 0, k, o, hd, h => by
    have : k = W.length := by omega
    subst this
    exact ⟨o, h, List.take_of_length_le (by rw [(KK_word h).2] <;> exact Nat.le_refl _)⟩
  | d + 1, k, o, hd, h => by
    obtain ⟨w, hl⟩ := KK_word h
    have hp := progress hN hm w (by omega)
    cases hR : readyL (csOf W m) N (cntV o m) with
    | nil => exact absurd hR hp
    | cons x xs =>
      have h2 : o ++ [x] ∈ KK W m N (k + 1) := by
        rw [KK_succ]
        exact List.mem_flatMap.mpr ⟨o, h, List.mem_map.mpr ⟨x, by rw [hR]; exact List.mem_cons_self .., rfl⟩⟩
      obtain ⟨v, hv, e⟩ := KK_extend hN hm d (k + 1) (o ++ [x]) (by omega) h2
      refine ⟨v, hv, ?_⟩
      have := congrArg (List.take k) e
      rw [List.take_take, Nat.min_eq_left (by omega), List.take_append_of_le_length (by omega), List.take_of_length_le (l := o) (by omega)] at this
      exact this
theorem KK_take : ∀ (k : Nat) (w : List Nat), w ∈ KK W m N k → ∀ j, j ≤ k → w.take j ∈ KK W m N j
  | 0, w, h, j, hj => by
    have : j = 0 := by omega
    subst this
    rw [List.mem_singleton.mp h]
    exact List.mem_singleton.mpr rfl
  | k + 1, w, h, j, hj => by
    by_cases z : j = k + 1
    · subst z
      rw [List.take_of_length_le (by rw [(KK_word h).2] <;> exact Nat.le_refl _)]
      exact h
    · have h0 := h
      rw [KK_succ] at h
      obtain ⟨o, h1, h2⟩ := List.mem_flatMap.mp h
      obtain ⟨x, _, rfl⟩ := List.mem_map.mp h2
      rw [List.take_append_of_le_length (by rw [(KK_word h1).2]; omega)]
      exact KK_take k o h1 j (by omega)
end
end K72

set_option Elab.async false
set_option linter.all false
set_option maxRecDepth 100000
set_option maxHeartbeats 4000000
/-! the layers count kept words and cuts -/
namespace K72
open L2
abbrev AL := List (List Nat × Nat)
def keysA (L : AL) : List (List Nat) := L.map Prod.fst
def wsum (L : AL) (g : List Nat → Nat) : Nat := (L.map fun e => e.2 * g e.1).sum
theorem wsum_cons (e : List Nat × Nat) (L : AL) (g : List Nat → Nat) : wsum (e :: L) g = e.2 * g e.1 + wsum L g := rfl
theorem wsum_app (L M : AL) (g : List Nat → Nat) : wsum (L ++ M) g = wsum L g + wsum M g := by unfold wsum; rw [List.map_append, List.sum_append]
theorem any_key (L : AL) (k : List Nat) : (L.any fun e => decide (e.1 = k)) = true ↔ k ∈ keysA L := by
  unfold keysA
  rw [List.any_eq_true, List.mem_map]
  exact ⟨fun ⟨e, h, q⟩ => ⟨e, h, of_decide_eq_true q⟩, fun ⟨e, h, q⟩ => ⟨e, h, decide_eq_true q⟩⟩
theorem putA_keys (L : AL) (k : List Nat) (v : Nat) : keysA (putA L k v) = if k ∈ keysA L then keysA L else keysA L ++ [k] := by
  unfold putA
  by_cases h : k ∈ keysA L
  · rw [if_pos ((any_key L k).mpr h), if_pos h]
    unfold keysA
    rw [List.map_map]
    refine List.map_congr_left fun e _ => ?_
    show (if e.1 = k then (e.1, v) else e).1 = e.1
    split <;> rfl
  · rw [if_neg (fun z => h ((any_key L k).mp z)), if_neg h]
    unfold keysA
    rw [List.map_append]
    rfl
theorem putA_nodup {L : AL} (k : List Nat) (v : Nat) (h : (keysA L).Nodup) : (keysA (putA L k v)).Nodup := by
  rw [putA_keys]
  by_cases z : k ∈ keysA L
  · rw [if_pos z]; exact h
  · rw [if_neg z, List.nodup_append]
    exact ⟨h, by simp, fun a ha b hb e => z (by rw [← List.mem_singleton.mp hb, ← e]; exact ha)⟩
theorem putA_mem_key (L : AL) (k c : List Nat) (v : Nat) : c ∈ keysA (putA L k v) ↔ c ∈ keysA L ∨ c = k := by
  rw [putA_keys]
  by_cases z : k ∈ keysA L
  · rw [if_pos z]
    exact ⟨.inl, fun h => h.elim id fun e => by rw [e]; exact z⟩
  · rw [if_neg z, List.mem_append, List.mem_singleton]
theorem getA_none {L : AL} {k : List Nat} (h : k ∉ keysA L) : getA L k = none := by
  unfold getA
  rw [List.find?_eq_none.mpr fun e he hk => h (List.mem_map.mpr ⟨e, he, of_decide_eq_true hk⟩)]
  rfl
theorem getA_cons (e : List Nat × Nat) (L : AL) (k : List Nat) : getA (e :: L) k = if e.1 = k then some e.2 else getA L k := by
  unfold getA
  by_cases z : e.1 = k
  · rw [if_pos z, List.find?_cons_of_pos (by simpa using z)]
    rfl
  · rw [if_neg z, List.find?_cons_of_neg (by simpa using z)]
theorem wsum_repl (g : List Nat → Nat) (k : List Nat) (v : Nat) : ∀ L : AL, (keysA L).Nodup → k ∈ keysA L → wsum (L.map fun e => if e.1 = k then (e.1, (getA L k).getD 0 + v) else e) g = wsum L g + v * g k
  | [], _, h => by cases h
  | e :: L, hn, h => by
    have hn' : (e.1 :: keysA L).Nodup := hn
    rw [List.nodup_cons] at hn'
    rw [List.map_cons, wsum_cons, wsum_cons, getA_cons]
    by_cases z : e.1 = k
    · rw [if_pos z, if_pos z]
      have hno : k ∉ keysA L := by rw [← z]; exact hn'.1
      have e2 : (L.map fun x => if x.1 = k then (x.1, (some e.2).getD 0 + v) else x) = L := by
        conv => rhs; rw [← List.map_id L]
        refine List.map_congr_left fun x hx => ?_
        rw [if_neg (fun y => hno (List.mem_map.mpr ⟨x, hx, y⟩))]
        rfl
      rw [e2]
      show (e.2 + v) * g e.1 + _ = _
      rw [Nat.add_mul, z]
      omega
    · rw [if_neg z, if_neg z]
      have hk : k ∈ keysA L := by
        have : k ∈ e.1 :: keysA L := h
        rcases List.mem_cons.mp this with y | y
        · exact absurd y.symm z
        · exact y
      rw [wsum_repl g k v L hn'.2 hk]
      omega
theorem addA_wsum {L : AL} (hn : (keysA L).Nodup) (k : List Nat) (v : Nat) (g : List Nat → Nat) : wsum (addA L k v) g = wsum L g + v * g k := by
  unfold addA putA
  by_cases h : k ∈ keysA L
  · rw [if_pos ((any_key L k).mpr h)]
    exact wsum_repl g k v L hn h
  · rw [if_neg (fun z => h ((any_key L k).mp z)), wsum_app, getA_none h]
    show wsum L g + ((0 + v) * g k + 0) = _
    rw [Nat.zero_add, Nat.add_zero]
theorem wsum_ind (k : List Nat) : ∀ L : AL, (keysA L).Nodup → wsum L (fun c => if c = k then 1 else 0) = (getA L k).getD 0
  | [], _ => rfl
  | e :: L, hn => by
    have hn' : (e.1 :: keysA L).Nodup := hn
    rw [List.nodup_cons] at hn'
    rw [wsum_cons, wsum_ind k L hn'.2, getA_cons]
    by_cases z : e.1 = k
    · rw [if_pos z, if_pos z, getA_none (by rw [← z]; exact hn'.1)]
      show e.2 * 1 + 0 = e.2
      omega
    · rw [if_neg z, if_neg z]
      omega
def suc (c : List Nat) (h : Nat) : List Nat := c.set h (c.getD h 0 + 1)
section
variable {cs : List Nat} {N : List (List Nat)}
theorem stepA_inv (e : List Nat × Nat) : ∀ (hs : List Nat) (acc : AL), (keysA acc).Nodup → (keysA (stepA cs N acc e hs)).Nodup ∧ (∀ g, wsum (stepA cs N acc e hs) g = wsum acc g + e.2 * (hs.map fun h => g (suc e.1 h)).sum) ∧
    ∀ c, c ∈ keysA (stepA cs N acc e hs) ↔ c ∈ keysA acc ∨ ∃ h ∈ hs, c = suc e.1 h
  | [], acc, hn => ⟨hn, fun g => rfl, fun c => ⟨.inl, fun h => h.elim id fun ⟨h, hm, _⟩ => (by cases hm)⟩⟩
  | h :: hs, acc, hn => by
    have hn2 : (keysA (addA acc (suc e.1 h) e.2)).Nodup := putA_nodup _ _ hn
    obtain ⟨a, b, c⟩ := stepA_inv e hs (addA acc (suc e.1 h) e.2) hn2
    refine ⟨a, fun g => ?_, fun x => ?_⟩
    · show wsum (stepA cs N (addA acc (suc e.1 h) e.2) e hs) g = _
      rw [b, addA_wsum hn, List.map_cons, List.sum_cons, Nat.mul_add]
      omega
    · show x ∈ keysA (stepA cs N (addA acc (suc e.1 h) e.2) e hs) ↔ _
      rw [c, show x ∈ keysA (addA acc (suc e.1 h) e.2) ↔ x ∈ keysA acc ∨ x = suc e.1 h from putA_mem_key _ _ _ _]
      constructor
      · rintro ((y | y) | ⟨k, hk, y⟩)
        · exact .inl y
        · exact .inr ⟨h, List.mem_cons_self .., y⟩
        · exact .inr ⟨k, List.mem_cons_of_mem _ hk, y⟩
      · rintro (y | ⟨k, hk, y⟩)
        · exact .inl (.inl y)
        · rcases List.mem_cons.mp hk with rfl | hk
          · exact .inl (.inr y)
          · exact .inr ⟨k, hk, y⟩
theorem foldA_inv : ∀ (L acc : AL), (keysA acc).Nodup → (keysA (L.foldl (fun acc e => stepA cs N acc e (readyL cs N e.1)) acc)).Nodup ∧
    (∀ g, wsum (L.foldl (fun acc e => stepA cs N acc e (readyL cs N e.1)) acc) g = wsum acc g + wsum L fun c => ((readyL cs N c).map fun h => g (suc c h)).sum) ∧
    ∀ c, c ∈ keysA (L.foldl (fun acc e => stepA cs N acc e (readyL cs N e.1)) acc) ↔ c ∈ keysA acc ∨ ∃ x ∈ keysA L, ∃ h ∈ readyL cs N x, c = suc x h
  | [], acc, hn => ⟨hn, fun g => rfl, fun c => ⟨.inl, fun h => h.elim id fun ⟨x, hx, _⟩ => (by cases hx)⟩⟩
  | e :: L, acc, hn => by
    obtain ⟨a1, b1, c1⟩ := stepA_inv (cs := cs) (N := N) e (readyL cs N e.1) acc hn
    obtain ⟨a, b, c⟩ := foldA_inv L (stepA cs N acc e (readyL cs N e.1)) a1
    refine ⟨a, fun g => ?_, fun x => ?_⟩
    · rw [List.foldl_cons, b, b1, wsum_cons]
      omega
    · rw [List.foldl_cons, c, c1]
      constructor
      · rintro ((y | ⟨h, hh, y⟩) | ⟨z, hz, h, hh, y⟩)
        · exact .inl y
        · exact .inr ⟨e.1, List.mem_cons_self .., h, hh, y⟩
        · exact .inr ⟨z, List.mem_cons_of_mem _ hz, h, hh, y⟩
      · rintro (y | ⟨z, hz, h, hh, y⟩)
        · exact .inl (.inl y)
        · have hz' : z ∈ e.1 :: keysA L := hz
          rcases List.mem_cons.mp hz' with rfl | hz'
          · exact .inl (.inr ⟨h, hh, y⟩)
          · exact .inr ⟨z, hz', h, hh, y⟩
end
section
variable {W : List Tw} {m : Nat} {N : List (List Nat)}
theorem suc_cnt {o : List Nat} {h : Nat} (hh : h < m) : suc (cntV o m) h = cntV (o ++ [h]) m := by
  unfold suc
  rw [cntV_getD hh, cntV_snoc hh]
theorem sum_flat {α : Type} (g : α → Nat) (F : List Nat → List α) : ∀ l : List (List Nat), ((l.flatMap F).map g).sum = (l.map fun o => ((F o).map g).sum).sum
  | [] => rfl
  | x :: l => by rw [List.flatMap_cons, List.map_append, List.sum_append, List.map_cons, List.sum_cons, sum_flat g F l]
theorem layer_inv : ∀ k, (keysA (layerL (csOf W m) N k)).Nodup ∧ (∀ g, wsum (layerL (csOf W m) N k) g = ((KK W m N k).map fun o => g (cntV o m)).sum) ∧
    ∀ c, c ∈ keysA (layerL (csOf W m) N k) ↔ ∃ o ∈ KK W m N k, c = cntV o m
  | 0 => by
    refine ⟨by show [cntV [] (csOf W m).length].Nodup; simp, fun g => ?_, fun c => ?_⟩
    · show 1 * g (cntV [] (csOf W m).length) + 0 = g (cntV [] m) + 0
      rw [csOf_len, Nat.one_mul]
    · show c ∈ [cntV [] (csOf W m).length] ↔ _
      rw [csOf_len, KK_zero, List.mem_singleton]
      exact ⟨fun h => ⟨[], List.mem_singleton.mpr rfl, h⟩, fun ⟨o, ho, h⟩ => by rw [List.mem_singleton.mp ho] at h; exact h⟩
  | k + 1 => by
    obtain ⟨i1, i2, i3⟩ := layer_inv k
    obtain ⟨a, b, c⟩ := foldA_inv (cs := csOf W m) (N := N) (layerL (csOf W m) N k) [] (by show ([] : List (List Nat)).Nodup; simp)
    refine ⟨a, fun g => ?_, fun x => ?_⟩
    · show wsum (nextL _ _ _) g = _
      unfold nextL
      rw [b, i2]
      show 0 + _ = _
      rw [Nat.zero_add, KK_succ, sum_flat]
      congr 1
      refine List.map_congr_left fun o _ => ?_
      rw [List.map_map]
      congr 1
      refine List.map_congr_left fun h hh => ?_
      have := readyL_lt hh
      rw [csOf_len] at this
      show g (suc (cntV o m) h) = g (cntV (o ++ [h]) m)
      rw [suc_cnt this]
    · show x ∈ keysA (nextL _ _ _) ↔ _
      unfold nextL
      rw [c]
      constructor
      · rintro (y | ⟨z, hz, h, hh, y⟩)
        · cases y
        · obtain ⟨o, ho, rfl⟩ := (i3 z).mp hz
          have := readyL_lt hh
          rw [csOf_len] at this
          rw [suc_cnt this] at y
          refine ⟨o ++ [h], ?_, y⟩
          rw [KK_succ]
          exact List.mem_flatMap.mpr ⟨o, ho, List.mem_map.mpr ⟨h, hh, rfl⟩⟩
      · rintro ⟨v, hv, y⟩
        rw [KK_succ] at hv
        obtain ⟨o, ho, h2⟩ := List.mem_flatMap.mp hv
        obtain ⟨h, hh, rfl⟩ := List.mem_map.mp h2
        have := readyL_lt hh
        rw [csOf_len] at this
        refine .inr ⟨cntV o m, (i3 _).mpr ⟨o, ho, rfl⟩, h, hh, ?_⟩
        rw [suc_cnt this]
        exact y
/-- the number of kept words -/
theorem orders_count (hm : ∀ x ∈ W, x.1 < m) : (getA (layerL (csOf W m) N W.length) (csOf W m)).getD 0 = (KK W m N W.length).length := by
  obtain ⟨i1, i2, _⟩ := layer_inv (W := W) (m := m) (N := N) W.length
  rw [← wsum_ind _ _ i1, i2]
  have e : ((KK W m N W.length).map fun o => if cntV o m = csOf W m then 1 else 0) = (KK W m N W.length).map fun _ => 1 := by
    refine List.map_congr_left fun o ho => ?_
    obtain ⟨w, hl⟩ := KK_word ho
    have f := word_full hm w hl
    rw [if_pos]
    unfold csOf cntV
    refine List.map_congr_left fun h _ => ?_
    exact f h
  rw [e]
  generalize KK W m N W.length = l
  induction l with
  | nil => rfl
  | cons x l ih => rw [List.map_cons, List.sum_cons, ih, List.length_cons]; omega
/-- all keys of the layers up to k -/
def allKeys (W : List Tw) (m : Nat) (N : List (List Nat)) : Nat → List (List Nat)
  | 0 => keysA (layerL (csOf W m) N 0)
  | k + 1 => allKeys W m N k ++ keysA (layerL (csOf W m) N (k + 1))
theorem many_all : ∀ k, manyN (csOf W m) N k = (allKeys W m N k).length
  | 0 => rfl
  | k + 1 => by
    show manyN (csOf W m) N k + _ = (allKeys W m N k ++ _).length
    rw [many_all k, List.length_append]
    congr 1
    unfold keysA
    rw [List.length_map]
theorem allKeys_mem : ∀ k c, c ∈ allKeys W m N k ↔ ∃ j, j ≤ k ∧ ∃ o ∈ KK W m N j, c = cntV o m
  | 0, c => by
    show c ∈ keysA _ ↔ _
    rw [(layer_inv 0).2.2]
    exact ⟨fun h => ⟨0, Nat.le_refl _, h⟩, fun ⟨j, hj, h⟩ => by
      have : j = 0 := by omega
      subst this
      exact h⟩
  | k + 1, c => by
    show c ∈ allKeys W m N k ++ keysA _ ↔ _
    rw [List.mem_append, allKeys_mem k c, (layer_inv (k + 1)).2.2]
    constructor
    · rintro (⟨j, hj, h⟩ | h)
      · exact ⟨j, by omega, h⟩
      · exact ⟨k + 1, Nat.le_refl _, h⟩
    · rintro ⟨j, hj, h⟩
      by_cases z : j = k + 1
      · subst z; exact .inr h
      · exact .inl ⟨j, by omega, h⟩
theorem key_sum {k : Nat} {o : List Nat} (h : o ∈ KK W m N k) : (cntV o m).sum = k := by
  obtain ⟨w, hl⟩ := KK_word h
  have := w.lt
  rw [csOf_len] at this
  rw [sum_range_count m o this, hl]
theorem allKeys_nodup : ∀ k, (allKeys W m N k).Nodup
  | 0 => (layer_inv 0).1
  | k + 1 => by
    show (allKeys W m N k ++ keysA _).Nodup
    rw [List.nodup_append]
    refine ⟨allKeys_nodup k, (layer_inv (k + 1)).1, fun a ha b hb e => ?_⟩
    obtain ⟨j, hj, o, ho, rfl⟩ := (allKeys_mem k a).mp ha
    obtain ⟨v, hv, rfl⟩ := ((layer_inv (k + 1)).2.2 b).mp hb
    have h1 := key_sum ho
    have h2 := key_sum hv
    rw [e] at h1
    omega
def box : List Nat → List (List Nat)
  | [] => [[]]
  | c :: cs => (List.range (c + 1)).flatMap fun x => (box cs).map fun v => x :: v
theorem box_len : ∀ cs : List Nat, (box cs).length ≤ 2 ^ cs.sum
  | [] => Nat.le_refl _
  | c :: cs => by
    show ((List.range (c + 1)).flatMap _).length ≤ _
    refine Nat.le_trans (flat_len _ (2 ^ cs.sum) (fun x => by rw [List.length_map]; exact box_len cs) _) ?_
    rw [List.length_range, List.sum_cons, Nat.pow_add]
    refine Nat.mul_le_mul_right _ ?_
    have : ∀ c : Nat, c + 1 ≤ 2 ^ c := fun c => by
      induction c with
      | zero => exact Nat.le_refl _
      | succ c ih => rw [Nat.pow_succ]; omega
    exact this c
theorem box_mem : ∀ (cs v : List Nat), v.length = cs.length → (∀ i, v.getD i 0 ≤ cs.getD i 0) → v ∈ box cs
  | [], [], _, _ => List.mem_singleton.mpr rfl
  | [], _ :: _, h, _ => by cases h
  | _ :: _, [], h, _ => by cases h
  | c :: cs, x :: v, hl, h => by
    have h0 : x ≤ c := h 0
    exact List.mem_flatMap.mpr ⟨x, List.mem_range.mpr (by omega), List.mem_map.mpr ⟨v, box_mem cs v (Nat.succ.inj hl) fun i => h (i + 1), rfl⟩⟩
theorem many_le (hm : ∀ x ∈ W, x.1 < m) (k : Nat) : manyN (csOf W m) N k ≤ 2 ^ W.length := by
  rw [many_all, ← csOf_sum hm]
  refine Nat.le_trans ((allKeys_nodup k).length_le_of_subset (fun c hc => ?_)) (box_len _)
  obtain ⟨j, _, o, ho, rfl⟩ := (allKeys_mem k c).mp hc
  obtain ⟨w, _⟩ := KK_word ho
  refine box_mem _ _ (by rw [cntV_len, csOf_len]) fun i => ?_
  by_cases z : i < m
  · rw [cntV_getD z]
    exact w.le i (by rw [csOf_len]; exact z)
  · rw [List.getD_eq_getElem?_getD, List.getElem?_eq_none_iff.mpr (by rw [cntV_len]; omega)]
    exact Nat.zero_le _
end
/-! ### the cuts that the law collects -/
def addC (C : List (List Nat)) (c : List Nat) : List (List Nat) := if c ∈ C then C else C ++ [c]
theorem addC_nodup {C : List (List Nat)} (c : List Nat) (h : C.Nodup) : (addC C c).Nodup := by
  unfold addC
  split
  · exact h
  · rename_i z
    rw [List.nodup_append]
    exact ⟨h, by simp, fun a ha b hb e => z (by rw [← List.mem_singleton.mp hb, ← e]; exact ha)⟩
theorem addC_mem (C : List (List Nat)) (c x : List Nat) : x ∈ addC C c ↔ x ∈ C ∨ x = c := by
  unfold addC
  by_cases z : c ∈ C
  · rw [if_pos z]
    exact ⟨.inl, fun h => h.elim id fun e => by rw [e]; exact z⟩
  · rw [if_neg z, List.mem_append, List.mem_singleton]
def cutsW (m : Nat) (C : List (List Nat)) (w : List Nat) : List (List Nat) := (List.range (w.length + 1)).foldl (fun C k => addC C (cntV (w.take k) m)) C
theorem cuts_fold (m : Nat) (w : List Nat) : ∀ (ks : List Nat) (C : List (List Nat)), C.Nodup → (ks.foldl (fun C k => addC C (cntV (w.take k) m)) C).Nodup ∧ ∀ x, x ∈ ks.foldl (fun C k => addC C (cntV (w.take k) m)) C ↔ x ∈ C ∨ ∃ k ∈ ks, x = cntV (w.take k) m
  | [], C, h => ⟨h, fun x => ⟨.inl, fun h => h.elim id fun ⟨k, hk, _⟩ => (by cases hk)⟩⟩
  | k :: ks, C, h => by
    obtain ⟨a, b⟩ := cuts_fold m w ks (addC C (cntV (w.take k) m)) (addC_nodup _ h)
    refine ⟨a, fun x => ?_⟩
    rw [List.foldl_cons, b, addC_mem]
    constructor
    · rintro ((y | y) | ⟨j, hj, y⟩)
      · exact .inl y
      · exact .inr ⟨k, List.mem_cons_self .., y⟩
      · exact .inr ⟨j, List.mem_cons_of_mem _ hj, y⟩
    · rintro (y | ⟨j, hj, y⟩)
      · exact .inl (.inl y)
      · rcases List.mem_cons.mp hj with rfl | hj
        · exact .inl (.inr y)
        · exact .inr ⟨j, hj, y⟩
def cutsK (m : Nat) (ws : List (List Nat)) : List (List Nat) := ws.foldl (cutsW m) []
theorem cutsK_inv (m : Nat) : ∀ (ws C : List (List Nat)), C.Nodup → (ws.foldl (cutsW m) C).Nodup ∧ ∀ x, x ∈ ws.foldl (cutsW m) C ↔ x ∈ C ∨ ∃ w ∈ ws, ∃ k, k ≤ w.length ∧ x = cntV (w.take k) m
  | [], C, h => ⟨h, fun x => ⟨.inl, fun h => h.elim id fun ⟨k, hk, _⟩ => (by cases hk)⟩⟩
  | w :: ws, C, h => by
    obtain ⟨a1, b1⟩ := cuts_fold m w (List.range (w.length + 1)) C h
    obtain ⟨a, b⟩ := cutsK_inv m ws (cutsW m C w) a1
    refine ⟨a, fun x => ?_⟩
    rw [List.foldl_cons, b]
    have b2 : x ∈ cutsW m C w ↔ x ∈ C ∨ ∃ k ∈ List.range (w.length + 1), x = cntV (w.take k) m := b1 x
    rw [b2]
    constructor
    · rintro ((y | ⟨k, hk, y⟩) | ⟨v, hv, y⟩)
      · exact .inl y
      · exact .inr ⟨w, List.mem_cons_self .., k, by rw [List.mem_range] at hk; omega, y⟩
      · exact .inr ⟨v, List.mem_cons_of_mem _ hv, y⟩
    · rintro (y | ⟨v, hv, k, hk, y⟩)
      · exact .inl (.inl y)
      · rcases List.mem_cons.mp hv with rfl | hv
        · exact .inl (.inr ⟨k, List.mem_range.mpr (by omega), y⟩)
        · exact .inr ⟨v, hv, k, hk, y⟩
theorem cuts_count {W : List Tw} {m : Nat} {N : List (List Nat)} (hN : N.Perm (quads W W.length)) (hm : ∀ x ∈ W, x.1 < m) : manyN (csOf W m) N W.length = (cutsK m (KK W m N W.length)).length := by
  obtain ⟨a, b⟩ := cutsK_inv m (KK W m N W.length) [] List.nodup_nil
  rw [many_all]
  refine Nat.le_antisymm ((allKeys_nodup _).length_le_of_subset fun c hc => ?_) (List.Nodup.length_le_of_subset a fun c hc => ?_)
  · obtain ⟨j, hj, o, ho, rfl⟩ := (allKeys_mem _ c).mp hc
    obtain ⟨w, hw, e⟩ := KK_extend hN hm (W.length - j) j o (by omega) ho
    exact (b _).mpr (.inr ⟨w, hw, j, by rw [(KK_word hw).2]; exact hj, by rw [e]⟩)
  · rcases (b c).mp hc with h | ⟨w, hw, k, hk, rfl⟩
    · cases h
    · rw [(KK_word hw).2] at hk
      exact (allKeys_mem _ _).mpr ⟨k, hk, w.take k, KK_take _ w hw k hk, rfl⟩
end K72

set_option Elab.async false
set_option linter.all false
set_option maxRecDepth 100000
set_option maxHeartbeats 4000000
/-! what the law's walk leans on -/
namespace K72
open PySem PySem.Spec PyProof.Rows L2 TL
def oD : Option Int → PyData
  | some c => .int c
  | none => .none
def Tc.dat (t : Tc) : PyData := .tuple [.str t.kind.txt, .int (t.cell : Int), oD t.found, oD t.put]
section
variable {K : PySem.W.Frag} {H : Hp}
theorem oD_dp (o : Option Int) : Dp K H (oI o) (oD o) := by
  cases o with
  | none => exact .non
  | some c => exact .int c
theorem tcs_dp : ∀ {vs : List V} {ts : List Tc}, TupsAt H vs (ts.map Tc.vs) → DpAll K H vs (ts.map Tc.dat)
  | [], [], _ => .nil
  | [], t :: ts, h => by cases h.1
  | v :: vs, [], h => by cases h.1
  | v :: vs, t :: ts, h => by
    obtain ⟨a, rfl, ha⟩ := h.2 0 v t.vs rfl rfl
    refine .cons (.tup (SqT.of ha) (.cons (.str _) (.cons (.int _) (.cons (oD_dp _) (.cons (oD_dp _) .nil))))) (tcs_dp ⟨Nat.succ.inj h.1, fun i u q x y => h.2 (i + 1) u q (by simpa using x) (by simpa using y)⟩)
theorem tl_dp {a : Addr} {hss : List (List Tc)} (h : TLAt H a hss) : Dp K H (.ref a) (.list (hss.map fun ts => .list (ts.map Tc.dat))) := by
  obtain ⟨ls, h1, h2, _, h4⟩ := h
  refine .lst (SqL.of h1) ?_
  have gen : ∀ (ls : List Addr) (hss : List (List Tc)), ls.length = hss.length → (∀ (i : Nat) l ts, ls[i]? = some l → hss[i]? = some ts → ∃ vs, H l = some (.lst vs) ∧ TupsAt H vs (ts.map Tc.vs)) → DpAll K H (ls.map V.ref) (hss.map fun ts => .list (ts.map Tc.dat)) := by
    intro ls
    induction ls with
    | nil =>
      intro hss e _
      cases hss with
      | nil => exact .nil
      | cons _ _ => cases e
    | cons l ls ih =>
      intro hss e h
      cases hss with
      | nil => cases e
      | cons ts hss =>
        obtain ⟨vs, q1, q2⟩ := h 0 l ts rfl rfl
        exact .cons (.lst (SqL.of q1) (tcs_dp q2)) (ih hss (Nat.succ.inj e) fun i l ts x y => h (i + 1) l ts (by simpa using x) (by simpa using y))
  exact gen ls hss h2 h4
end
theorem kd_can (k : Kd) : PyData.canLay0 (.str k.txt) = true := by cases k <;> exact (by decide +kernel)
theorem oD_can (o : Option Int) : (oD o).canLay0 = true := by cases o <;> rfl
theorem Tc.can (t : Tc) : t.dat.canLay0 = true := by
  show (PyData.canLay0 (.str t.kind.txt) && (PyData.canLay0 (.int (t.cell : Int)) && ((oD t.found).canLay0 && ((oD t.put).canLay0 && true)))) = true
  rw [kd_can, oD_can, oD_can]
  rfl
theorem oD_dep (o : Option Int) : (oD o).depth = 0 := by cases o <;> rfl
theorem Tc.dep (t : Tc) : t.dat.depth ≤ 1 := by
  show max 0 (max 0 (max (oD t.found).depth (max (oD t.put).depth 0))) + 1 ≤ 1
  rw [oD_dep, oD_dep]
  decide
theorem tl_shaped (hss : List (List Tc)) : SeqAt.shaped (.list (hss.map fun ts => .list (ts.map Tc.dat))) = true := by
  have h1 : PyData.canLayAll0 (hss.map fun ts => PyData.list (ts.map Tc.dat)) = true := canAll fun d hd => by
    obtain ⟨g, hg, rfl⟩ := List.mem_map.mp hd
    show PyData.canLayAll0 (g.map Tc.dat) = true
    exact canAll fun e he => by
      obtain ⟨t, _, rfl⟩ := List.mem_map.mp he
      exact t.can
  have h2 : PyData.depthAll (hss.map fun ts => PyData.list (ts.map Tc.dat)) ≤ 2 := depAll fun d hd => by
    obtain ⟨g, hg, rfl⟩ := List.mem_map.mp hd
    show PyData.depthAll (g.map Tc.dat) + 1 ≤ 2
    have : PyData.depthAll (g.map Tc.dat) ≤ 1 := depAll fun e he => by
      obtain ⟨t, _, rfl⟩ := List.mem_map.mp he
      exact t.dep
    omega
  show (PyData.canLayAll0 (hss.map fun ts => PyData.list (ts.map Tc.dat)) && decide (PyData.depthAll (hss.map fun ts => PyData.list (ts.map Tc.dat)) + 1 ≤ 64)) = true
  rw [h1, decide_eq_true (by omega)]
  rfl
theorem bools_shaped (b c : Bool) : SeqAt.shaped (.list [.bool b, .bool c]) = true := by cases b <;> cases c <;> rfl
theorem quads_ok {W : List Tw} {m : Nat} (hm : ∀ x ∈ W, x.1 < m) {N : List (List Nat)} (hN : N.Perm (quads W W.length)) : ∀ q ∈ N, Qok (csOf W m) q := fun q hq => by
  obtain ⟨j, hj, i, hi, rfl⟩ := (quads_mem _ _).mp (hN.mem_iff.mp hq)
  obtain ⟨a, _, c⟩ := firsts_sound j (Nat.le_refl _) i hi
  have h1 := hand_lt hm (i := i) (by omega)
  have h2 := hand_lt hm hj
  exact ⟨_, _, _, _, rfl, c, ⟨_, cntV_at h1, rank_tot (by omega)⟩, ⟨_, cntV_at h2, rank_tot hj⟩⟩
theorem quads_few {W : List Tw} {N : List (List Nat)} (hN : N.Perm (quads W W.length)) (hl : W.length ≤ 8) : N.length ≤ 1000 := by
  rw [hN.length_eq]
  have := quads_len W W.length hl
  omega
theorem RwAt_same {H H' : Hp} {a : Addr} {vss : List (List Nat)} (s : Same H H') (h : VecsAt H a vss) : VecsAt H' a vss := h.same s
theorem webL_hands {p : Pg} {ord : List Nat} {ts : List Tc} {s s' : Ws} (hk : s.ok p) (hrun : s.run ord = some (s', ts)) : ∀ x ∈ webL ord ts, x.1 < p.hands.length := by
  obtain ⟨_, _, hl, hm, _, _⟩ := Ws.run_ok hk hrun
  intro x hx
  obtain ⟨i, hi⟩ := List.getElem?_of_mem hx
  have hil := (List.getElem?_eq_some_iff.mp hi).1
  rw [webL_len hl] at hil
  rw [webL_at' hl hil] at hi
  cases hi
  exact hm _ (List.mem_of_getElem? (getD_at hil))
theorem filter_snoc {p : List Nat → Bool} {l : List (List Nat)} {i : Nat} {o : List Nat} (e : l[i]? = some o) : (l.take (i + 1)).filter p = (l.take i).filter p ++ if p o = true then [o] else [] := by
  rw [List.take_succ, e]
  show (l.take i ++ [o]).filter p = _
  rw [List.filter_append]
  congr 1
  by_cases z : p o = true
  · rw [if_pos z, List.filter_cons_of_pos z] <;> rfl
  · rw [if_neg z, List.filter_cons_of_neg z] <;> rfl
end K72

set_option Elab.async false
set_option linter.all false
set_option maxRecDepth 100000
set_option maxHeartbeats 4000000
/-! the law -/
namespace K72
open PySem PySem.Spec PyProof.Rows L2 TL
def sp_law (K : PySem.W.Frag) : Sp := fun vs H Q _ => ∃ (a : Addr) (ns : List Int), vs = [.ref a] ∧ SqL K H a (ns.map V.int) ∧ ∀ H', Q (.bl true) H'
theorem ProgAt.top {H : Hp} {v : V} {p : Pg} (h : ProgAt H v p) : ∃ (t hl : Addr) (ls : List Addr), v = .ref t ∧ H t = some (.tup [.int (p.cells : Int), .ref hl]) ∧ H hl = some (.lst (ls.map V.ref)) ∧ ls.length = p.hands.length := by
  obtain ⟨t, hl, ls, e, a, b⟩ := h
  exact ⟨t, hl, ls, e, a, b.top, b.len⟩
/-- all but what stands at a and b is kept -/
abbrev Kp2 (a b : Addr) (H H' : Hp) : Prop := ∀ p o, H p = some o → p ≠ a → p ≠ b → H' p = some o
theorem putK_keys {kvs : List (List Key × V)} {C : List (List Nat)} (c : List Nat) (v : V) (e : kvs.map Prod.fst = C.map keyN) : (putK kvs (keyN c) v).map Prod.fst = (addC C c).map keyN := by
  have h : (kvs.any fun kv => decide (kv.1 = keyN c)) = true ↔ c ∈ C := by
    rw [List.any_eq_true]
    constructor
    · rintro ⟨kv, hk, hd⟩
      have : kv.1 ∈ C.map keyN := e ▸ List.mem_map.mpr ⟨kv, hk, rfl⟩
      obtain ⟨x, hx, ex⟩ := List.mem_map.mp this
      rw [of_decide_eq_true hd] at ex
      rw [← keyN_inj ex]
      exact hx
    · intro hc
      have : keyN c ∈ kvs.map Prod.fst := e ▸ List.mem_map.mpr ⟨c, hc, rfl⟩
      obtain ⟨kv, hk, ek⟩ := List.mem_map.mp this
      exact ⟨kv, hk, decide_eq_true ek⟩
  unfold putK addC
  by_cases z : c ∈ C
  · rw [if_pos (h.mpr z), if_pos z, ← e, List.map_map]
    refine List.map_congr_left fun kv _ => ?_
    show (if kv.1 = keyN c then (kv.1, v) else kv).1 = kv.1
    split <;> rfl
  · rw [if_neg (fun k => z (h.mp k)), if_neg z, List.map_append, List.map_append, e]
    rfl
theorem addC_len (C : List (List Nat)) (c : List Nat) : (addC C c).length ≤ C.length + 1 := by
  unfold addC
  split
  · omega
  · rw [List.length_append] <;> exact Nat.le_refl _
theorem cutf_len (m : Nat) (w : List Nat) : ∀ (ks : List Nat) (C : List (List Nat)), (ks.foldl (fun C k => addC C (cntV (w.take k) m)) C).length ≤ C.length + ks.length
  | [], C => Nat.le_refl _
  | k :: ks, C => by
    have h1 := cutf_len m w ks (addC C (cntV (w.take k) m))
    have h2 := addC_len C (cntV (w.take k) m)
    show (ks.foldl _ (addC C (cntV (w.take k) m))).length ≤ C.length + (ks.length + 1)
    omega
theorem cutsK_len (m : Nat) : ∀ (ws C : List (List Nat)), (∀ w ∈ ws, w.length ≤ 7) → (ws.foldl (cutsW m) C).length ≤ C.length + 8 * ws.length
  | [], C, _ => Nat.le_refl _
  | w :: ws, C, h => by
    have h1 := cutsK_len m ws (cutsW m C w) fun x hx => h x (List.mem_cons_of_mem _ hx)
    have h2 : (cutsW m C w).length ≤ C.length + (List.range (w.length + 1)).length := cutf_len m w _ C
    rw [List.length_range] at h2
    have h3 := h w (List.mem_cons_self ..)
    show (ws.foldl (cutsW m) (cutsW m C w)).length ≤ C.length + 8 * (ws.length + 1)
    omega
section
variable {P : Program} {w : World} {K : PySem.W.Frag} {mg : Str → Option Value} {base : Heap} {f : Addr} {fd : FuncData}
theorem sc_law : FnScope ["script", "program", "reel", "order", "web", "touches", "record", "kept", "cuts", "some", "places", "due", "told", "k", "hand"] ["script"] (defScope s_law) := ⟨rfl, rfl, rfl, by decide +kernel, rfl, by decide +kernel, by decide +kernel⟩
theorem ok_law (T : Txt K mg) (F : FnP K "law" "law" s_law [] f fd)
    (h_read : Def1 P w K mg base "read" ["text"] [] 7 sp_read) (h__law_program : Def1 P w K mg base "_law_program" ["script"] [] 4 (sp_law_program K)) (h__law_reel : Def1 P w K mg base "_law_reel" ["cell", "k"] [] 1 sp_law_reel)
    (h__law_cell : Def1 P w K mg base "_law_cell" ["script", "k"] [] 1 (sp_law_cell K)) (h__law_draw : Def1 P w K mg base "_law_draw" ["reel", "many"] [] 1 sp_law_draw) (h__law_run : Def1 P w K mg base "_law_run" ["program", "reel", "most"] [] 9 sp_law_run)
    (h_web_of : Def1 P w K mg base "web_of" ["program", "order", "cells"] [.non] 9 sp_web_of) (h_touches_of : Def1 P w K mg base "touches_of" ["program", "order", "cells"] [.non] 9 sp_touches_of)
    (h_record_of : Def1 P w K mg base "record_of" ["hands", "web"] [] 5 sp_record_of) (h__law_orders : Def1 P w K mg base "_law_orders" ["counts"] [] 1 sp_law_orders) (h__law_places : Def1 P w K mg base "_law_places" ["web", "order"] [] 1 sp_law_places)
    (h__law_kept : Def1 P w K mg base "_law_kept" ["web", "places"] [] 1 sp_law_kept) (h_keeps : Def1 P w K mg base "keeps" ["record", "order"] [] 3 sp_keeps) (h_same_run : Def1 P w K mg base "same_run" ["web", "order"] [] 3 sp_same_run)
    (h_first_order : Def1 P w K mg base "first_order" ["record"] [] 3 sp_first_order) (h_how_many_orders : Def1 P w K mg base "how_many_orders" ["record", "most"] [.int 2000] 5 (sp_count fun cs N => (getA (layerL cs N cs.sum) cs).getD 0))
    (h_how_many_cuts : Def1 P w K mg base "how_many_cuts" ["record", "most"] [.int 2000] 5 (sp_count fun cs N => manyN cs N cs.sum)) : FnOk P w K mg base CX0 10 f fd ["script"] (sp_law K) := by
  refine fok F sc_law (fun vs H Q E h => ?_) (fun cdv A outer s H vs Q E hr h => ?_)
  · obtain ⟨_, _, rfl, _⟩ := h
    rfl
  · obtain ⟨a, ns, rfl, hS, q⟩ := h
    have hu : (A.deeper (envOfC "law" (defScope s_law) s.heap.objs.size f cdv)).units + 1 < cLine := by have := hr.un; omega
    refine ⟨_, (pss_cons (ps_set (i := 1) sc_law.nd rfl (Or.inl rfl) (pe_cl h_read hr (pa_cons (pe_cl h__law_program hr (pa_cons (pv 0) pa_nil)) pa_nil)))
  (pss_cons (ps_set (i := 2) sc_law.nd rfl (Or.inl rfl) (pe_cl h__law_reel hr (pa_cons (pe_cl h__law_cell hr (pa_cons (pv 0) (pa_cons pe_int pa_nil))) (pa_cons pe_int pa_nil))))
  (pss_cons (ps_set (i := 3) sc_law.nd rfl (Or.inl rfl) (pe_cl h__law_run hr (pa_cons (pv 1) (pa_cons (pv 2) (pa_cons (pe_cl h__law_draw hr (pa_cons (pv 2) (pa_cons pe_int pa_nil))) pa_nil)))))
  (pss_cons (ps_set (i := 4) sc_law.nd rfl (Or.inl rfl) (pe_cl h_web_of hr (pa_cons (pv 1) (pa_cons (pe_callTy call_list_of (by rfl) T.n_list (by decide +kernel) (pa_cons (pv 3) pa_nil)) pa_nil))))
  (pss_cons (ps_set (i := 5) sc_law.nd rfl (Or.inl rfl) (pe_cl h_touches_of hr (pa_cons (pv 1) (pa_cons (pe_callTy call_list_of (by rfl) T.n_list (by decide +kernel) (pa_cons (pv 3) pa_nil)) pa_nil))))
  (pss_cons (ps_set (i := 6) sc_law.nd rfl (Or.inl rfl) (pe_cl h_record_of hr (pa_cons (pe_callB call_len_seq (by rfl) T.n_len (by decide +kernel) (pa_cons (pe_ix ix_tup (pv 1) pe_int (fun _ _ => rfl)) pa_nil)) (pa_cons (pe_callTy call_list_of (by rfl) T.n_list (by decide +kernel) (pa_cons (pv 4) pa_nil)) pa_nil))))
  (pss_cons (ps_set (i := 7) sc_law.nd rfl (Or.inl rfl) (pe_lst pa_nil))
  (pss_cons (ps_set (i := 8) sc_law.nd rfl (Or.inl rfl) pe_dnewT)
  (pss_cons (ps_for PassesOwn.never rfl (pi_list (pe_cl h__law_orders hr (pa_cons (pe_ix ix_tup (pv 6) pe_int (fun _ _ => rfl)) pa_nil))) (pg_name (i := 9) sc_law.nd rfl (Or.inr rfl))
  (pss_cons (ps_set (i := 10) sc_law.nd rfl (Or.inl rfl) (pe_cl h__law_places hr (pa_cons (pv 4) (pa_cons (pv 9) pa_nil))))
  (pss_cons (ps_set (i := 11) sc_law.nd rfl (Or.inl rfl) (pe_cl h__law_kept hr (pa_cons (pv 4) (pa_cons (pv 10) pa_nil))))
  (pss_cons (ps_set (i := 12) sc_law.nd rfl (Or.inl rfl) (pe_lst (pa_cons (pe_cl h_keeps hr (pa_cons (pv 6) (pa_cons (pe_callTy call_list_of (by rfl) T.n_list (by decide +kernel) (pa_cons (pv 9) pa_nil)) pa_nil))) (pa_cons (pe_cl h_same_run hr (pa_cons (pv 4) (pa_cons (pv 10) pa_nil))) pa_nil))))
  (pss_cons (ps_if (PW.pt (pw_or (pt_cmpR (op_neD hr.units) (pv 12) (pe_lst (pa_cons (pv 11) (pa_cons (pv 11) pa_nil))) (nomark _)) (pw_or (pt_not (pt_val (pe_callB call_isi (by rfl) T.n_isinstance (by decide +kernel) (pa_cons (pe_ix ix_list (pv 12) pe_int (fun _ _ => rfl)) (pa_cons (pe_bltn (v := .ty "bool") (by rfl) T.n_bool boot_bool rfl) pa_nil))))) (pw_or1 (pt_not (pt_val (pe_callB call_isi (by rfl) T.n_isinstance (by decide +kernel) (pa_cons (pe_ix ix_list (pv 12) pe_int (fun _ _ => rfl)) (pa_cons (pe_bltn (v := .ty "bool") (by rfl) T.n_bool boot_bool rfl) pa_nil)))))))))
  (pss_one (ps_ret pe_bl))
  pss_nil)
  (pss_one (ps_if (pt_val (pv 11))
  (pss_cons (ps_if (pt_cmpR (op_neD hr.units) (pe_cl h_touches_of hr (pa_cons (pv 1) (pa_cons (pe_callTy call_list_of (by rfl) T.n_list (by decide +kernel) (pa_cons (pv 9) pa_nil)) pa_nil))) (pv 5) (nomark _))
  (pss_one (ps_ret pe_bl))
  pss_nil)
  (pss_cons (ps_expr (pe_bm PySem.F.plainAttrs_list PySem.F.slot_list_append PySem.F.type_list_append mt_append (pv 7) (pa_cons (pv 9) pa_nil)))
  (pss_one (ps_for PassesOwn.never rfl (pi_range1 rfl T.n_range (pa_cons (pe_op op_add (pe_callB call_len_seq (by rfl) T.n_len (by decide +kernel) (pa_cons (pv 9) pa_nil)) pe_int) pa_nil)) (pg_name (i := 13) sc_law.nd rfl (Or.inr rfl))
  (pss_one (ps_dput hu (pv 8) (pe_callTy call_tuple_of (by rfl) T.n_tuple (by decide +kernel) (pa_cons (pe_lc (own := [("hand", 14)]) (g := gName 14) (tt := tYes) (te := tBM K "list" (rCntI K) (tSl (rSlL K) (tVar 9) tNoPart (tPart (tVar 13))) (tCons (tVar 14) tNil)) rfl sc_law.nd (pi_range1 rfl T.n_range (pa_cons (pe_callB call_len_seq (by rfl) T.n_len (by decide +kernel) (pa_cons (pe_ix ix_tup (pv 6) pe_int (fun _ _ => rfl)) pa_nil)) pa_nil)) (blkOk_by (own := [("hand", 14)]) (N := ["script", "program", "reel", "order", "web", "touches", "record", "kept", "cuts", "some", "places", "due", "told", "k", "hand"]) (sc := defScope s_law) (by decide +kernel)) (fun _ _ _ _ _ => (pg_name (i := 14) sc_law.nd rfl (Or.inl rfl))) (fun _ _ _ _ _ => pts_nil) (fun _ _ _ _ _ => (pe_bm PySem.F.plainAttrs_list PySem.F.slot_list_count PySem.F.type_list_count mt_lcount (pe_slice sl_list (pv 9) po_none (po_some (pv 13))) (pa_cons (pv 14) pa_nil)))) pa_nil)) pe_bl rfl))))))
  pss_nil)))))))
  (pss_cons (ps_if (PW.pt (pw_or (pt_cmpR (op_neD hr.units) (pe_cl h_first_order hr (pa_cons (pv 6) pa_nil)) (pe_ix ix_list (pv 7) pe_int (fun _ _ => rfl)) (nomark _)) (pw_or1 (pt_cmpR op_ne (pe_cl h_how_many_orders hr (pa_cons (pv 6) pa_nil)) (pe_callB call_len_seq (by rfl) T.n_len (by decide +kernel) (pa_cons (pv 7) pa_nil)) (nomark _)))))
  (pss_one (ps_ret pe_bl))
  pss_nil)
  (pss_one (ps_ret (pe_cmpR op_eq (pe_cl h_how_many_cuts hr (pa_cons (pv 6) pa_nil)) (pe_callB call_len_dT (by rfl) T.n_len (by decide +kernel) (pa_cons (pv 8) pa_nil)) (nomark _)))))))))))))), ?_⟩
    -- program
    refine ⟨_, rfl, a, ns, rfl, hS, fun p H1 hp S1 => ⟨p, rfl, hp, fun v H2 hP S2 => ?_⟩⟩
    have S02 := S1.trans S2
    have hh1 := hp.h1
    have hh2 := hp.h2
    -- reel
    refine ⟨_, rfl, a, ns, 9, rfl, S02.seq hS, fun c0 => ⟨c0, 9, rfl, by decide, fun r H3 fr S3 R3 => ?_⟩⟩
    -- order
    refine ⟨_, rfl, _, rfl, _, rfl, r, 8, rfl, R3, by decide, by decide, fun d H4 hd R4 k4 => ?_⟩
    have S24 : Same H2 H4 := Kp1.same k4 S3 fr
    refine ⟨v, r, p, d, rfl, hP.same S24, hp, R4, by omega, fun ord s' ts o H5 hrun hol hO fo k5 R5 => ?_⟩
    have S25 : Same H2 H5 := Kp1.same k5 S24 fr
    have hol7 : ord.length ≤ 7 := by omega
    obtain ⟨okS, _, htl, hom, _, _⟩ := Ws.run_ok (Ws.new_ok hp) hrun
    -- web
    refine ⟨_, rfl, _, rfl, o, _, rfl, .inl (SqL.of hO), fun o2 ho2 => ?_⟩
    have So2 := Same.new (o := .lst (natsV ord)) ho2
    refine ⟨o2, v, s', p, ord, ts, rfl, (hP.same S25).same So2, hp, upd_same, hrun, by omega, fun wl xs H6 hwl hwT fwl S6 => ?_⟩
    have S56 := So2.trans S6
    have hW6 : WebAt H6 wl (webL ord ts) := ⟨xs, hwl, hwT⟩
    generalize hWdef : webL ord ts = W at hW6 hwT
    have hWl : W.length = ord.length := by rw [← hWdef]; exact webL_len htl
    have hWm : ∀ x ∈ W, x.1 < p.hands.length := by rw [← hWdef]; exact webL_hands (Ws.new_ok hp) hrun
    have hW8 : ∀ x ∈ W, x.1 < 8 := fun x hx => Nat.lt_of_lt_of_le (hWm x hx) hh2
    -- touches
    refine ⟨_, rfl, _, rfl, o, _, rfl, .inl (SqL.of (S56 _ _ hO)), fun o3 ho3 => ?_⟩
    have So3 := Same.new (o := .lst (natsV ord)) ho3
    refine ⟨o3, v, s', p, ord, ts, rfl, ((hP.same S25).same S56).same So3, hp, upd_same, hrun, by omega, fun tl H7 hTL ftl S7 => ?_⟩
    have S67 := So3.trans S7
    have hW7 := hW6.same S67
    have hwl7 := S67 _ _ hwl
    have hP7 := ((hP.same S25).same S56).same S67
    -- record
    obtain ⟨tp, hl, ls, rfl, htp, hhl, hlsn⟩ := hP7.top
    refine ⟨_, rfl, _, _, _, _, rfl, rfl, SqT.of htp, rfl, hl, _, rfl, .inl (SqL.of hhl), _, rfl, wl, xs, rfl, .inl (SqL.of hwl7), fun wl2 hwl2 => ?_⟩
    have Sw2 := Same.new (o := .lst xs) hwl2
    refine ⟨wl2, W, p.hands.length, by rw [List.length_map, hlsn] <;> rfl, ⟨xs, upd_same, (hwT.ts (TS.of S67)).ts (TS.of Sw2)⟩, by omega, hh2, hWm, fun rc N H8 hRc hNp S8 => ?_⟩
    have S78 := Sw2.trans S8
    have hW8' := hW7.same S78
    have hP8 := hP7.same S78
    obtain ⟨ls7, tl1, tl2, tl3, tl4⟩ := hTL
    have hTL7 : TLA H7 tl ls7 (perHand p.hands.length ord ts) := ⟨tl1, tl2, tl3, tl4⟩
    have hTL8 := hTL7.same S78
    -- kept, cuts
    refine ⟨by show 0 ≤ sizeLine; decide, fun kp fkp => ?_⟩
    refine fun ct fct => ?_
    have Skc : Same H8 (upd (upd H8 kp (.lst [])) ct (.dT [])) := (Same.new fkp).trans (Same.new fct)
    have fct8 : H8 ct = none := (Same.new fkp).free fct
    have nkc : kp ≠ ct := ne_of_none upd_same fct
    have hkp9 : (upd (upd H8 kp (.lst [])) ct (.dT [])) kp = some (.lst []) := (upd_ne nkc).trans upd_same
    have hct9 : (upd (upd H8 kp (.lst [])) ct (.dT [])) ct = some (.dT []) := upd_same
    generalize upd (upd H8 kp (.lst [])) ct (.dT []) = H9 at Skc hkp9 hct9
    have hRc9 := hRc.same Skc
    obtain ⟨cc, nl, hrc9, hcc9, _⟩ := hRc9
    have hcs : csOf W p.hands.length = cntV (W.map Prod.fst) p.hands.length := rfl
    have hsum := csOf_sum hWm
    -- the orders
    refine ⟨_, rfl, _, _, _, _, rfl, rfl, SqT.of hrc9, rfl, cc, csOf W p.hands.length, rfl, hcc9, by rw [csOf_len]; exact hh2, by rw [hsum]; omega, fun lo H10 hV S10 => ?_⟩
    rw [hsum] at hV
    obtain ⟨ols, hlo, holn, hole, flo, fols⟩ := hV
    have nlk : lo ≠ kp := (ne_of_none hkp9 flo).symm
    have nlc : lo ≠ ct := (ne_of_none hct9 flo).symm
    have hkp10 := S10 _ _ hkp9
    have hct10 := S10 _ _ hct9
    have S810 : Same H8 H10 := Skc.trans S10
    generalize hml : p.hands.length = m at *
    have hcl : (csOf W m).length = m := csOf_len
    have hm := hWm
    refine ⟨lo, rfl, ⟨_, SqL.of hlo⟩, for_it (walk_list (xs := ols.map V.ref)) (fun i σ H' => ∃ (v9 v10 v11 v12 v13 : Option V) (kls : List Addr) (kvs : List (List Key × V)), σ = [some (.ref a), some (.ref tp), some (.ref r), some (.ref o), some (.ref wl), some (.ref tl), some (.ref rc), some (.ref kp), some (.ref ct), v9, v10, v11, v12, v13, none] ∧
        Kp2 kp ct H10 H' ∧ VA H' kp kls (((ordersN (csOf W m) W.length).take i).filter (keepsB m N)) ∧ (∀ l ∈ kls, l ∈ ols) ∧ H' ct = some (.dT kvs) ∧ kvs.map Prod.fst = (cutsK m (((ordersN (csOf W m) W.length).take i).filter (keepsB m N))).map keyN)
      ⟨none, none, none, none, none, [], [], rfl, fun _ _ e _ _ => e, ⟨hkp10, rfl, (fun i l v h => by simp at h), fun l h => (by cases h)⟩, fun l h => (by cases h), hct10, rfl⟩ (fun i σ H' _ ⟨_, _, _, _, _, _, _, _, k, _⟩ => SqL.of (k _ _ hlo nlk nlc)) ?_ ?_⟩
    · rintro i y σ H12 H11 hi ⟨v9, v10, v11, v12, v13, kls, kvs, rfl, k11, hVA, hkls, hct, hkvs⟩ ⟨rfl, hy⟩
      rw [List.length_map] at hi
      obtain ⟨l, el, rfl⟩ := ls_at hy
      obtain ⟨wd, ew⟩ := some_of_lt el holn
      have hwmem := List.mem_of_getElem? ew
      have hWd : Wrd (csOf W m) wd := ordersN_ok _ wd hwmem
      have hwlen := ordersN_word _ wd hwmem
      have hfull : Full W wd := word_full hm hWd hwlen
      have fl := fols l (List.mem_of_getElem? el)
      have nlk' : l ≠ kp := (ne_of_none hkp9 fl).symm
      have nlc' : l ≠ ct := (ne_of_none hct9 fl).symm
      have hl12 : H11 l = some (.lst (natsV wd)) := k11 _ _ (hole i l wd el ew) nlk' nlc'
      have tsk : TS H10 H11 := fun b xs e => k11 b _ e (ne_of e hkp10 (fun z => by cases z)) (ne_of e hct10 (fun z => by cases z))
      have nwk : wl ≠ kp := by
        obtain ⟨_, e, _⟩ := hW8'
        exact ne_of_none e fkp
      have nwc : wl ≠ ct := by
        obtain ⟨_, e, _⟩ := hW8'
        exact ne_of_none e fct8
      have hW11 : WebAt H11 wl W := by
        obtain ⟨xs', e, t⟩ := hW8'.same S810
        exact ⟨xs', k11 _ _ e nwk nwc, t.ts tsk⟩
      have hwl' : wd.length ≤ 7 := by omega
      have hwl'' : W.length ≤ 7 := by omega
      have hperm := places_perm hfull
      have eti := filter_snoc (p := keepsB m N) ew
      -- places
      refine ⟨_, rfl, _, rfl, wl, l, W, wd, rfl, hW11, hl12, by omega, by omega, fun t ht => by rw [placesOf_len _ _ (Nat.le_refl _), ← List.map_take, List.take_length]; exact hfull.lt ht, fun pl H12 hpl S12 => ?_⟩
      -- due
      refine ⟨_, rfl, _, rfl, wl, pl, W, places W wd, rfl, hW11.same S12, hpl, hperm, by omega, fun H13 S13 => ?_⟩
      -- told
      have hl13 := S13 _ _ (S12 _ _ hl12)
      have hrc11 : RecAt H11 rc (csOf W m) N := by
        obtain ⟨c, lx, e1, e2, xs', e3, t⟩ := hRc
        exact ⟨c, lx, k11 _ _ (S810 _ _ e1) (ne_of_none e1 fkp) (ne_of_none e1 fct8), k11 _ _ (S810 _ _ e2) (ne_of_none e2 fkp) (ne_of_none e2 fct8), xs', k11 _ _ (S810 _ _ e3) (ne_of_none e3 fkp) (ne_of_none e3 fct8), (t.ts (TS.of S810)).ts tsk⟩
      refine ⟨_, rfl, _, rfl, l, _, rfl, .inl (SqL.of hl13), fun l2 hl2 => ?_⟩
      have Sl2 := Same.new (o := .lst (natsV wd)) hl2
      have S1113 : Same H11 H13 := S12.trans S13
      have hcnt : ∀ h, h < (csOf W m).length → wd.count h = (csOf W m).getD h 0 := fun h hh => by
        rw [hcl] at hh
        rw [csOf_getD hh]
        exact hfull h
      have hwm : ∀ h ∈ wd, h < m := fun h hh => by
        have h1 := List.count_pos_iff.mpr hh
        rw [hfull h] at h1
        obtain ⟨x, hx, ex⟩ := List.mem_map.mp (List.count_pos_iff.mp h1)
        rw [← ex]
        exact hm x hx
      refine ⟨rc, l2, csOf W m, wd, N, rfl, (hrc11.same S1113).same Sl2, quads_ok hm hNp, quads_few hNp (by omega), by omega, upd_same, by omega, hcnt, fun h hh => by rw [hcl]; exact hwm h hh, fun H14 S14 => ?_⟩
      rw [hcl]
      refine ⟨_, rfl, _, rfl, wl, pl, W, places W wd, rfl, ((hW11.same S1113).same Sl2).same S14, S14 _ _ (Sl2 _ _ (S13 _ _ hpl)), hperm, by omega, fun H15 S15 => ?_⟩
      rw [keeps_kept hNp hm hh2 hwm hfull]
      refine ⟨by show 2 ≤ sizeLine; decide, fun td htd => ?_⟩
      have S1115 : Same H11 H15 := S1113.trans (Sl2.trans (S14.trans S15))
      have Std := Same.new (o := .lst [.bl (keptB W (places W wd)), .bl (keptB W (places W wd))]) htd
      have htd16 : (upd H15 td (.lst [.bl (keptB W (places W wd)), .bl (keptB W (places W wd))])) td = _ := upd_same
      have S1116 := S1115.trans Std
      generalize upd H15 td (.lst [.bl (keptB W (places W wd)), .bl (keptB W (places W wd))]) = H16 at htd16 Std S1116
      obtain ⟨b, hb⟩ : ∃ b, b = keptB W (places W wd) := ⟨_, rfl⟩
      rw [← hb] at htd16
      have hty : TyX K H16 (.bl b) (.type "bool") := TyX.base (TyOf.bl _)
      -- told != [due, due]
      rw [← hb]
      refine ⟨_, rfl, _, rfl, _, rfl, by show 2 ≤ sizeLine; decide, fun t2 ht2 => ?_⟩
      have St2 := Same.new (o := .lst [.bl b, .bl b]) ht2
      refine ⟨.list [.bool b, .bool b], .list [.bool b, .bool b], .lst (SqL.of (St2 _ _ htd16)) (.cons (.bl b) (.cons (.bl b) .nil)), .lst (SqL.of upd_same) (.cons (.bl b) (.cons (.bl b) .nil)), bools_shaped _ _, bools_shaped _ _, ?_⟩
      rw [eqv_shaped (bools_shaped b b)]
      refine ⟨_, rfl, iteF ?_⟩
      have htd17 := St2 _ _ htd16
      have S1117 := S1116.trans St2
      generalize upd H16 t2 (.lst [.bl b, .bl b]) = H17 at htd17 S1117
      have hty : TyX K H17 (.bl b) (.type "bool") := TyX.base (TyOf.bl _)
      refine ⟨_, rfl, _, _, _, _, rfl, rfl, SqL.of htd17, rfl, _, _, .type "bool", .type "bool", true, rfl, .ty "bool", hty, rfl, ?_⟩
      refine ⟨_, rfl, iteF ?_⟩
      refine ⟨_, rfl, _, _, _, _, rfl, rfl, SqL.of htd17, rfl, _, _, .type "bool", .type "bool", true, rfl, .ty "bool", hty, rfl, ?_⟩
      refine ⟨_, rfl, iteF ?_⟩
      -- if due
      refine ⟨_, rfl, _, rfl, ?_⟩
      have hfil : (((ordersN (csOf W m) W.length).take (i + 1)).filter (keepsB m N)) = (((ordersN (csOf W m) W.length).take i).filter (keepsB m N)) ++ if b = true then [wd] else [] := by
        rw [eti, keeps_kept hNp hm hh2 hwm hfull, ← hb]
      have hbk : b = keptB W (places W wd) := hb
      cases b with
      | false =>
        refine iteF ?_
        refine ⟨_, _, _, _, _, kls, kvs, rfl, fun q ob e n1 n2 => S1117 _ _ (k11 q ob e n1 n2), ?_, hkls, S1117 _ _ hct, ?_⟩
        · rw [hfil, if_neg Bool.false_ne_true, List.append_nil]
          exact hVA.same S1117
        · rw [hfil, if_neg Bool.false_ne_true, List.append_nil]
          exact hkvs
      | true =>
        refine iteT ?_
        have hl17 := S1117 _ _ hl12
        have S817 : Same H8 H17 := fun q ob e => S1117 _ _ (k11 q ob (S810 q ob e) (ne_of_none e fkp) (ne_of_none e fct8))
        have hP17 : ProgAt H17 (.ref tp) p := hP8.same S817
        have hTL17 := hTL8.same S817
        obtain ⟨s'', us, hrun2, hus⟩ := same_touches m hrun htl (w := wd) (by rw [hWdef]; exact hfull) (by rw [hWdef, ← hbk])
        refine ⟨_, rfl, _, rfl, l, _, rfl, .inl (SqL.of hl17), fun l3 hl3 => ?_⟩
        have Sl3 := Same.new (o := .lst (natsV wd)) hl3
        refine ⟨l3, .ref tp, s'', p, wd, us, rfl, hP17.same Sl3, hp, upd_same, hrun2, by omega, fun tl2 H18 hTL2 _ S18 => ?_⟩
        rw [hml, hus] at hTL2
        have S1718 := Sl3.trans S18
        refine ⟨_, rfl, _, _, tl_dp hTL2, tl_dp (hTL17.same S1718).out, tl_shaped _, tl_shaped _, ?_⟩
        rw [eqv_shaped (tl_shaped _)]
        refine ⟨_, rfl, iteF ?_⟩
        have S1118 := S1117.trans S1718
        have hVA18 := hVA.same S1118
        have hl18 := S1118 _ _ hl12
        -- kept.append
        have hfl : (((ordersN (csOf W m) W.length).take i).filter (keepsB m N)).length ≤ 8 ^ 7 := by
          refine Nat.le_trans (List.length_filter_le _ _) ?_
          rw [List.length_take]
          refine Nat.le_trans (Nat.min_le_right _ _) (Nat.le_trans (ordersN_len (by omega) _) (Nat.pow_le_pow_right (by decide) hwl''))
        have hkl : (kls.map V.ref).length < sizeLine := by
          rw [List.length_map, hVA18.len]
          exact Nat.lt_of_le_of_lt hfl (by decide)
        refine ⟨_, rfl, .inl ⟨rfl, _, SqL.of hVA18.top⟩, _, rfl, kp, _, _, rfl, rfl, hVA18.top, hkl, ?_⟩
        have hVA19 := hVA18.push hl18 nlk'
        have nkc' : kp ≠ ct := nkc
        have hct19 : (upd H18 kp (.lst (kls.map V.ref ++ [.ref l]))) ct = some (.dT kvs) := (upd_ne nkc.symm).trans (S1118 _ _ hct)
        have hl19 : (upd H18 kp (.lst (kls.map V.ref ++ [.ref l]))) l = some (.lst (natsV wd)) := (upd_ne nlk').trans hl18
        have k19 : Kp2 kp ct H10 (upd H18 kp (.lst (kls.map V.ref ++ [.ref l]))) := fun q ob e n1 n2 => (upd_ne n1).trans (S1118 _ _ (k11 q ob e n1 n2))
        generalize upd H18 kp (.lst (kls.map V.ref ++ [.ref l])) = H19 at hVA19 hct19 hl19 k19
        generalize hC0 : cutsK m (((ordersN (csOf W m) W.length).take i).filter (keepsB m N)) = C0 at hkvs
        -- the cuts
        refine ⟨_, rfl, l, _, rfl, .inl (SqL.of hl19), _, _, rfl, rfl, ((wd.length + 1 : Nat) : Int), by rw [natsV_len] <;> rfl, by omega, by omega, for_range (n := wd.length + 1) (fun j σ H' => ∃ (v13 : Option V) (kvs' : List (List Key × V)), σ = [some (.ref a), some (.ref tp), some (.ref r), some (.ref o), some (.ref wl), some (.ref tl), some (.ref rc), some (.ref kp), some (.ref ct), some (.ref l), some (.ref pl), some (.bl true), some (.ref td), v13, none] ∧
            Kp1 ct H19 H' ∧ H' ct = some (.dT kvs') ∧ kvs'.map Prod.fst = ((List.range j).foldl (fun C k => addC C (cntV (wd.take k) m)) C0).map keyN)
          ⟨_, kvs, rfl, Kp1.refl _ _, hct19, hkvs⟩ ?_ ?_⟩
        · rintro j σ H20 hj ⟨v13, kvs', rfl, k20, hct20, hkvs'⟩
          simp only [Int.zero_add]
          have S820 : Same H8 H20 := fun q ob e => k20 _ _ (k19 _ _ (S810 q ob e) (ne_of_none e fkp) (ne_of_none e fct8)) (ne_of_none e fct8)
          obtain ⟨c2, lx, hrc20, hc20, _⟩ := hRc.same S820
          have hl20 := k20 _ _ hl19 nlc'
          have hjw : j ≤ wd.length := by omega
          have ecut : cutV (natsV wd) none (some (j : Int)) = natsV (wd.take j) := by
            by_cases z : j < wd.length
            · exact cut_hi wd j z
            · have e0 : j = wd.length := by omega
              unfold cutV
              have e1 : HT.sIx (natsV wd).length 0 none = 0 := rfl
              have e2 : HT.sIx (natsV wd).length (natsV wd).length (some (j : Int)) = j := by rw [HT.sIx_nat, natsV_len]; omega
              rw [e1, e2]
              unfold natsV
              simp [List.map_take]
          refine ⟨_, rfl, _, rfl, _, _, _, _, rfl, rfl, SqT.of hrc20, rfl, c2, _, rfl, .inl (SqL.of hc20), ((m : Nat) : Int), by rw [natsV_len, cntV_len], by omega, by omega, fun D hD => ?_⟩
          have SD := Same.new (o := .lst []) hD
          refine lc_it (walk_range (n := m)) (fun i H' => Same H20 H' ∧ H' D = some (.lst (natsV ((List.range i).map fun h => (wd.take j).count h)))) ⟨SD, upd_same⟩ (fun _ _ _ _ => trivial) ?_ ?_
          · rintro h y H21 H22 hh ⟨S21, hD21⟩ ⟨rfl, rfl⟩
            refine ⟨rfl, ?_⟩
            refine ⟨_, rfl, _, rfl, _, rfl, l, _, rfl, SqL.of (S21 _ _ hl20), fun g hg => ?_⟩
            rw [ecut]
            have Sg := Same.new (o := .lst (natsV (wd.take j))) hg
            have hg2 : (upd H22 g (.lst (natsV (wd.take j)))) g = _ := upd_same
            refine ⟨.inl ⟨rfl, _, SqL.of hg2⟩, _, rfl, g, (wd.take j).map fun i : Nat => (i : Int), 0 + (h : Int), rfl, rfl, by rw [← natsV_ints]; exact SqL.of hg2, ?_⟩
            rw [Int.zero_add, count_int]
            refine ⟨_, Sg _ _ hD21, Nat.lt_of_le_of_lt (by rw [natsV_len, List.length_map, List.length_range]; omega : _ ≤ 8) (by decide), Same.mut (S21.trans Sg) hD, ?_⟩
            rw [upd_same, natsV_snoc, List.range_succ, List.map_append]
            rfl
          · rintro H21 ⟨S21, hD21⟩
            refine ⟨D, _, rfl, .inl ⟨SqL.of hD21, fun tk htk => ?_⟩⟩
            have Stk := Same.new (o := .tup (natsV (cntV (wd.take j) m))) htk
            have hkk : (upd H21 tk (.tup (natsV (cntV (wd.take j) m)))) tk = some (.tup ((keyN (cntV (wd.take j) m)).map kV)) := by rw [keyN_kV]; exact upd_same
            have hct21 := Stk _ _ (S21 _ _ hct20)
            have hkl' : kvs'.length < sizeLine := by
              have e1 : kvs'.length = (kvs'.map Prod.fst).length := (List.length_map ..).symm
              rw [e1, hkvs', List.length_map]
              have e2 := cutf_len m wd (List.range j) C0
              have e3 := cutsK_len m (((ordersN (csOf W m) W.length).take i).filter (keepsB m N)) [] fun x hx => by
                have := ordersN_word _ x (List.mem_of_mem_take (List.mem_filter.mp hx).1)
                omega
              rw [List.length_range] at e2
              have e5 : (((ordersN (csOf W m) W.length).take i).filter (keepsB m N)).length ≤ i := by
                refine Nat.le_trans (List.length_filter_le _ _) ?_
                rw [List.length_take]
                exact Nat.min_le_left _ _
              have e6 : (ordersN (csOf W m) W.length).length ≤ 8 ^ 7 := Nat.le_trans (ordersN_len (by omega) _) (Nat.pow_le_pow_right (by decide) hwl'')
              have e4 : C0.length ≤ 8 * i := by
                rw [← hC0]
                exact Nat.le_trans e3 (by show 0 + _ ≤ _; omega)
              have e7 : (8 : Nat) ^ 7 = 2097152 := by decide
              rw [e7] at e6
              rw [holn] at hi
              show _ < 2 ^ 24
              have e8 : (2 : Nat) ^ 24 = 16777216 := by decide
              rw [e8]
              omega
            refine ⟨ct, _, rfl, DPut.t hct21 hkk hkl', ?_⟩
            refine ⟨_, _, rfl, (k20.trans (Kp1.of (S21.trans Stk))).trans (Kp1.upd _), upd_same, ?_⟩
            rw [putK_keys _ _ hkvs', List.range_succ, List.foldl_append]
            rfl
        · rintro σ H20 ⟨v13, kvs', rfl, k20, hct20, hkvs'⟩
          have hne : ∀ x ∈ kls ++ [l], x ≠ ct := fun x hx => by
            rcases List.mem_append.mp hx with hx | hx
            · exact (ne_of_none hct9 (fols x (hkls x hx))).symm
            · rw [List.mem_singleton.mp hx]; exact nlc'
          refine ⟨_, _, _, _, _, kls ++ [l], kvs', rfl, fun q ob e n1 n2 => k20 _ _ (k19 q ob e n1 n2) n2, ?_, fun x hx => ?_, hct20, ?_⟩
          · rw [hfil, if_pos rfl]
            exact ⟨k20 _ _ hVA19.top nkc, hVA19.len, fun i' l' v h1 h2 => k20 _ _ (hVA19.each i' l' v h1 h2) (hne l' (List.mem_of_getElem? h1)), hVA19.ne⟩
          · rcases List.mem_append.mp hx with hx | hx
            · exact hkls x hx
            · rw [List.mem_singleton.mp hx]; exact List.mem_of_getElem? el
          · rw [hfil, if_pos rfl, hkvs', ← hC0]
            unfold cutsK
            rw [List.foldl_append]
            rfl
    · rintro σ H11 ⟨v9, v10, v11, v12, v13, kls, kvs, rfl, k11, hVA, hkls, hct, hkvs⟩
      rw [List.length_map, holn, List.take_length] at hVA hkvs
      have S811 : Same H8 H11 := fun q ob e => k11 _ _ (S810 q ob e) (ne_of_none e fkp) (ne_of_none e fct8)
      obtain ⟨rr, hrr⟩ := KK_head hNp hm W.length (Nat.le_refl _)
      have hKK : (ordersN (csOf W m) W.length).filter (keepsB m N) = KK W m N W.length := rfl
      rw [hKK] at hVA hkvs
      have hRc11 := hRc.same S811
      have hnf := quads_few hNp (show W.length ≤ 8 by omega)
      have hqo := quads_ok hm hNp
      have hprog : ∀ k, k < (csOf W m).sum → readyL (csOf W m) N (cntV (greedy (csOf W m) N k) (csOf W m).length) ≠ [] := fun k hk => greedy_prog hNp hm (by omega)
      have hmany : ∀ k, k ≤ (csOf W m).sum → manyN (csOf W m) N k ≤ 2000 := fun k _ => by
        have h1 := many_le (N := N) hm k
        have h2 : 2 ^ W.length ≤ 2 ^ 7 := Nat.pow_le_pow_right (by decide) (by omega)
        have h3 : (2 : Nat) ^ 7 = 128 := by decide
        omega
      refine ⟨_, rfl, rc, csOf W m, N, rfl, hRc11, hqo, hnf, by omega, by omega, hprog, fun fo H12 hfo S12 => ?_⟩
      rw [hsum] at hfo
      have hVA12 := hVA.same S12
      have hlen0 : 0 < kls.length := by rw [hVA.len, hrr]; exact Nat.succ_pos _
      obtain ⟨l0, el0⟩ : ∃ l0, kls[0]? = some l0 := ⟨_, List.getElem?_eq_getElem hlen0⟩
      have hl0 := hVA12.each 0 l0 (greedy (csOf W m) N W.length) el0 (by rw [hrr] <;> rfl)
      have hat : (kls.map V.ref)[0]? = some (.ref l0) := by rw [List.getElem?_map, el0] <;> rfl
      refine ⟨_, rfl, _, _, _, _, rfl, rfl, SqL.of hVA12.top, atI_nat hat, ?_⟩
      refine ⟨_, _, .lst (SqL.of hfo) (dp_nats _), .lst (SqL.of hl0) (dp_nats _), shaped_nats _, shaped_nats _, ?_⟩
      rw [eqv_shaped (shaped_nats _)]
      refine ⟨_, rfl, iteF ?_⟩
      refine ⟨_, rfl, rc, csOf W m, N, 2000, rfl, hRc11.same S12, hqo, hnf, by omega, by omega, by decide, hmany, fun H13 S13 => ?_⟩
      have hVA13 := hVA12.same S13
      refine ⟨_, rfl, kp, _, rfl, .inl (SqL.of hVA13.top), ?_⟩
      have ho := orders_count (N := N) hm
      have hc := cuts_count hNp hm
      refine ⟨rfl, _, rfl, iteNS (by show V.int (((getA (layerL (csOf W m) N (csOf W m).sum) (csOf W m)).getD 0 : Nat) : Int) = _; rw [hsum, ho, List.length_map, hVA.len]) ?_⟩
      have hct13 := S13 _ _ (S12 _ _ hct)
      refine ⟨_, rfl, rc, csOf W m, N, 2000, rfl, hRc11.same (S12.trans S13), hqo, hnf, by omega, by omega, by decide, hmany, fun H14 S14 => ?_⟩
      refine ⟨_, rfl, ct, kvs, rfl, S14 _ _ hct13, ?_⟩
      have e1 : manyN (csOf W m) N (csOf W m).sum = kvs.length := by
        have e2 : kvs.length = (kvs.map Prod.fst).length := (List.length_map ..).symm
        rw [hsum, hc, e2, hkvs, List.length_map]
      refine ⟨rfl, ?_⟩
      have e3 : decide (V.int ((manyN (csOf W m) N (csOf W m).sum : Nat) : Int) = V.int ((kvs.length : Nat) : Int)) = true := decide_eq_true (by rw [e1])
      show Q (.bl (decide (V.int ((manyN (csOf W m) N (csOf W m).sum : Nat) : Int) = V.int ((kvs.length : Nat) : Int)))) H14
      rw [e3]
      exact q H14
end
end K72

set_option Elab.async false
set_option linter.all false
set_option maxRecDepth 100000
set_option maxHeartbeats 0
/-! the end: each def by the facts of the head; the law -/
namespace K72
open PySem PySem.Spec PyProof.Rows L2 TL
section
variable {P : Program} {w : World} {K : PySem.W.Frag} {mg : Str → Option Value} {base : Heap} {f : Addr} {fd : FuncData}
theorem def1_of {x q : Str} {pr : Arguments} {b : List Stmt} {sc : Scope} {dvs : List V} {kws : List (Str × V)} {ps : List Str} {k : Nat} {sp : Sp} (F : FunD K x q pr b sc dvs kws f fd) (m : mg x = some (.ref f)) (hb : Binds K fd ps []) (ok : FnOk P w K mg base CX0 k f fd ps sp) :
    Def1 P w K mg base x ps [] k sp := ⟨f, fd, [], m, F.kp, hb, .nil, ok⟩
theorem def1_ofD {x q : Str} {pr : Arguments} {b : List Stmt} {sc : Scope} {dvs dv : List V} {kws : List (Str × V)} {ps : List Str} {k : Nat} {sp : Sp} {ds : List Value} (F : FunD K x q pr b sc dvs kws f fd) (m : mg x = some (.ref f)) (hb : Binds K fd ps ds) (hv : Vals dv ds) (ok : FnOk P w K mg base CX0 k f fd ps sp) :
    Def1 P w K mg base x ps dv k sp := ⟨f, fd, ds, m, F.kp, hb, hv, ok⟩
theorem gvi {x : Str} {i : Int} (h : ∃ t, mg x = some (.int i t)) : GV mg x (.int i) := by
  obtain ⟨t, e⟩ := h
  exact ⟨_, e, t, rfl⟩
theorem gvs {x z : Str} (h : ∃ t, mg x = some (.str z t)) : GV mg x (.str z) := by
  obtain ⟨t, e⟩ := h
  exact ⟨_, e, t, rfl⟩
theorem fun_ne {x y q q' : Str} {pr pr' : Arguments} {b b' : List Stmt} {sc sc' : Scope} {dvs dvs' : List V} {kws kws' : List (Str × V)} {g : Addr} {gd : FuncData} (F : FunD K x q pr b sc dvs kws f fd) (G : FunD K y q' pr' b' sc' dvs' kws' g gd) (h : x ≠ y) : f ≠ g := by
  rintro rfl
  obtain ⟨_, _, _, _, _, _, _, _, _, _, e1, l1, _⟩ := F.ex
  obtain ⟨_, _, _, _, _, _, _, _, _, _, e2, l2, _⟩ := G.ex
  rw [l1] at l2
  have e3 : fd = gd := by
    injection l2 with l2
    injection l2 with _ _ l2 _
    injection l2
  refine h ?_
  have e4 : fd.name = x := by rw [e1] <;> rfl
  have e5 : gd.name = y := by rw [e2] <;> rfl
  rw [← e4, ← e5, e3]
theorem kdct {a : Addr} {kvs : List (Str × He.Dv)} (t : ∃ es n, KDict K w a es n) (h : He.valsB K a kvs = true) {q : Str × He.Dv} (hq : q ∈ kvs) : KDct K w a q.1 (q.2.v K) := by
  obtain ⟨es, n, d⟩ := t
  obtain ⟨u, e, r⟩ := He.valsB_ok h hq
  exact ⟨es, n, u, d.at_, d.lit, e, r⟩
end
theorem facts {P : Program} {w : World} {K : PySem.W.Frag} {h : Heap} {mg : Str → Option Value} {f : Addr} (KX0 : K.In h) (G0 : h.Ns mainGlobals mg) (hfa_ : mg ("law" : Str) = some (.ref f)) (c : He.SaysX hfa hfn hts [] hex_ w h K) :
    ∃ fd : FuncData, (∀ (s : Shared) (v : Value), BindsTo s fd ⟨[v], []⟩ [("script", v)]) ∧ ∀ base : Heap, K.In base → base.Ns mainGlobals mg → FnOk P w K mg base CX0 10 f fd ["script"] (sp_law K) := by
  obtain ⟨f_is_touch, F_is_touch⟩ := c.t.d.def_ 0 (d := d_is_touch) rfl
  obtain ⟨f_need_record, F_need_record⟩ := c.t.d.def_ 1 (d := d_need_record) rfl
  obtain ⟨f_firsts_of, F_firsts_of⟩ := c.t.d.def_ 2 (d := d_firsts_of) rfl
  obtain ⟨f_waits_for, F_waits_for⟩ := c.t.d.def_ 3 (d := d_waits_for) rfl
  obtain ⟨f_ready, F_ready⟩ := c.t.d.def_ 4 (d := d_ready) rfl
  obtain ⟨f_keeps, F_keeps⟩ := c.t.d.def_ 5 (d := d_keeps) rfl
  obtain ⟨f_first_order, F_first_order⟩ := c.t.d.def_ 6 (d := d_first_order) rfl
  obtain ⟨f_next_layer, F_next_layer⟩ := c.t.d.def_ 7 (d := d_next_layer) rfl
  obtain ⟨f_layers, F_layers⟩ := c.t.d.def_ 8 (d := d_layers) rfl
  obtain ⟨f_how_many_cuts, F_how_many_cuts⟩ := c.t.d.def_ 9 (d := d_how_many_cuts) rfl
  obtain ⟨f_how_many_orders, F_how_many_orders⟩ := c.t.d.def_ 10 (d := d_how_many_orders) rfl
  obtain ⟨f_number_of, F_number_of⟩ := c.t.d.def_ 11 (d := d_number_of) rfl
  obtain ⟨f_box_of, F_box_of⟩ := c.t.d.def_ 12 (d := d_box_of) rfl
  obtain ⟨f_plain_of, F_plain_of⟩ := c.t.d.def_ 13 (d := d_plain_of) rfl
  obtain ⟨f_worth_of, F_worth_of⟩ := c.t.d.def_ 14 (d := d_worth_of) rfl
  obtain ⟨f_unless_of, F_unless_of⟩ := c.t.d.def_ 15 (d := d_unless_of) rfl
  obtain ⟨f_row_of, F_row_of⟩ := c.t.d.def_ 16 (d := d_row_of) rfl
  obtain ⟨f_cell_of, F_cell_of⟩ := c.t.d.def_ 17 (d := d_cell_of) rfl
  obtain ⟨f_cells_of, F_cells_of⟩ := c.t.d.def_ 18 (d := d_cells_of) rfl
  obtain ⟨f_take_row, F_take_row⟩ := c.t.d.def_ 19 (d := d_take_row) rfl
  obtain ⟨f_look_at_targets, F_look_at_targets⟩ := c.t.d.def_ 20 (d := d_look_at_targets) rfl
  obtain ⟨f_read, F_read⟩ := c.t.d.def_ 21 (d := d_read) rfl
  obtain ⟨f_worth_now, F_worth_now⟩ := c.t.d.def_ 22 (d := d_worth_now) rfl
  obtain ⟨f_is_so, F_is_so⟩ := c.t.d.def_ 23 (d := d_is_so) rfl
  obtain ⟨f_put_in, F_put_in⟩ := c.t.d.def_ 24 (d := d_put_in) rfl
  obtain ⟨f_do_own, F_do_own⟩ := c.t.d.def_ 25 (d := d_do_own) rfl
  obtain ⟨f_lead_on, F_lead_on⟩ := c.t.d.def_ 26 (d := d_lead_on) rfl
  obtain ⟨f_do_touch, F_do_touch⟩ := c.t.d.def_ 27 (d := d_do_touch) rfl
  obtain ⟨f_hand_of, F_hand_of⟩ := c.t.d.def_ 28 (d := d_hand_of) rfl
  obtain ⟨f_first_numbers, F_first_numbers⟩ := c.t.d.def_ 29 (d := d_first_numbers) rfl
  obtain ⟨f_turns_of, F_turns_of⟩ := c.t.d.def_ 30 (d := d_turns_of) rfl
  obtain ⟨f_web_of, F_web_of⟩ := c.t.d.def_ 31 (d := d_web_of) rfl
  obtain ⟨f_touches_of, F_touches_of⟩ := c.t.d.def_ 32 (d := d_touches_of) rfl
  obtain ⟨f_names, F_names⟩ := c.t.d.def_ 33 (d := d_names) rfl
  obtain ⟨f_touches_meet, F_touches_meet⟩ := c.t.d.def_ 34 (d := d_touches_meet) rfl
  obtain ⟨f_is_step, F_is_step⟩ := c.t.d.def_ 35 (d := d_is_step) rfl
  obtain ⟨f_looked_back, F_looked_back⟩ := c.t.d.def_ 36 (d := d_looked_back) rfl
  obtain ⟨f_stands_of, F_stands_of⟩ := c.t.d.def_ 37 (d := d_stands_of) rfl
  obtain ⟨f_same_run, F_same_run⟩ := c.t.d.def_ 38 (d := d_same_run) rfl
  obtain ⟨f_notes, F_notes⟩ := c.t.d.def_ 39 (d := d_notes) rfl
  obtain ⟨f_counts_of, F_counts_of⟩ := c.t.d.def_ 40 (d := d_counts_of) rfl
  obtain ⟨f_record_of, F_record_of⟩ := c.t.d.def_ 41 (d := d_record_of) rfl
  obtain ⟨f__law_reel, F__law_reel⟩ := c.t.d.def_ 42 (d := d__law_reel) rfl
  obtain ⟨f__law_draw, F__law_draw⟩ := c.t.d.def_ 43 (d := d__law_draw) rfl
  obtain ⟨f__law_cell, F__law_cell⟩ := c.t.d.def_ 44 (d := d__law_cell) rfl
  obtain ⟨f__law_e, F__law_e⟩ := c.t.d.def_ 45 (d := d__law_e) rfl
  obtain ⟨f__law_row, F__law_row⟩ := c.t.d.def_ 46 (d := d__law_row) rfl
  obtain ⟨f__law_program, F__law_program⟩ := c.t.d.def_ 47 (d := d__law_program) rfl
  obtain ⟨f__law_run, F__law_run⟩ := c.t.d.def_ 48 (d := d__law_run) rfl
  obtain ⟨f__law_orders, F__law_orders⟩ := c.t.d.def_ 49 (d := d__law_orders) rfl
  obtain ⟨f__law_places, F__law_places⟩ := c.t.d.def_ 50 (d := d__law_places) rfl
  obtain ⟨f__law_kept, F__law_kept⟩ := c.t.d.def_ 51 (d := d__law_kept) rfl
  obtain ⟨f_law, F_law⟩ := c.t.d.def_ 52 (d := d_law) rfl
  obtain ⟨f_Hand___init__, F_Hand___init__⟩ := c.t.d.def_ 53 (d := d_Hand___init__) rfl
  obtain ⟨f_Works___init__, F_Works___init__⟩ := c.t.d.def_ 54 (d := d_Works___init__) rfl
  obtain ⟨f_Works_turn, F_Works_turn⟩ := c.t.d.def_ 55 (d := d_Works_turn) rfl
  obtain ⟨f_Works_how, F_Works_how⟩ := c.t.d.def_ 56 (d := d_Works_how) rfl
  obtain ⟨f_Works_counts, F_Works_counts⟩ := c.t.d.def_ 57 (d := d_Works_counts) rfl
  have e := hfa_.symm.trans (He.glo_ok KX0 G0 (c.t.d.fact 52 (f := .glo "law") rfl))
  cases e
  have b := FunD.bindsA (ps := ["script"]) F_law fun _ _ _ _ _ _ us hl => match us, hl with | [_], _ => rfl
  refine ⟨_, fun s v => b s [v] rfl, fun base KX G => ?_⟩
  have T : Txt K mg := ⟨He.free_ok KX G (c.t.d.fact 57 (f := .free "abs") rfl),
    He.free_ok KX G (c.t.d.fact 58 (f := .free "len") rfl),
    He.free_ok KX G (c.t.d.fact 59 (f := .free "str") rfl),
    He.free_ok KX G (c.t.d.fact 60 (f := .free "range") rfl),
    He.free_ok KX G (c.t.d.fact 61 (f := .free "enumerate") rfl),
    He.free_ok KX G (c.t.d.fact 62 (f := .free "zip") rfl),
    He.free_ok KX G (c.t.d.fact 63 (f := .free "dict") rfl),
    He.free_ok KX G (c.t.d.fact 64 (f := .free "list") rfl),
    He.free_ok KX G (c.t.d.fact 65 (f := .free "tuple") rfl),
    He.free_ok KX G (c.t.d.fact 66 (f := .free "sorted") rfl),
    He.free_ok KX G (c.t.d.fact 67 (f := .free "set") rfl),
    He.free_ok KX G (c.t.d.fact 68 (f := .free "int") rfl),
    He.free_ok KX G (c.t.d.fact 69 (f := .free "isinstance") rfl),
    He.free_ok KX G (c.t.d.fact 70 (f := .free "bool") rfl),
    He.free_ok KX G (c.t.d.fact 71 (f := .free "sum") rfl),
    He.free_ok KX G (c.t.d.fact 72 (f := .free "max") rfl),
    He.free_ok KX G (c.t.d.fact 73 (f := .free "KeyError") rfl),
    gvi (He.int_ok KX G (c.t.d.fact 74 (f := .int "MOST_CELLS" 20) rfl)),
    gvi (He.int_ok KX G (c.t.d.fact 75 (f := .int "MOST_HANDS_programs" 8) rfl)),
    gvi (He.int_ok KX G (c.t.d.fact 76 (f := .int "MOST_ROWS" 60) rfl)),
    gvi (He.int_ok KX G (c.t.d.fact 77 (f := .int "ROUND" 1000) rfl)),
    gvi (He.int_ok KX G (c.t.d.fact 78 (f := .int "MOST_OWN" 60) rfl)),
    gvi (He.int_ok KX G (c.t.d.fact 79 (f := .int "HANDS" 8) rfl)),
    gvi (He.int_ok KX G (c.t.d.fact 80 (f := .int "MOST_HANDS_records" 8) rfl)),
    gvs (He.str_ok KX G (c.t.d.fact 81 (f := .str "FIGURES" "0123456789") rfl)),
    gvs (He.str_ok KX G (c.t.d.fact 82 (f := .str "BOXES" "abcdefgh") rfl)),
    gvs (He.str_ok KX G (c.t.d.fact 83 (f := .str "LETTERS" "abcdefgh") rfl))⟩
  have hC : HC K (He.ga K "Hand") := ⟨He.cls_ok (c.t.d.fact 84 (f := .cls "Hand") rfl), He.noat_ok (c.t.d.fact 91 (f := .noat "Hand" "rows") rfl), He.noat_ok (c.t.d.fact 92 (f := .noat "Hand" "at") rfl), He.noat_ok (c.t.d.fact 93 (f := .noat "Hand" "held") rfl), He.noat_ok (c.t.d.fact 94 (f := .noat "Hand" "spoken") rfl), He.noat_ok (c.t.d.fact 95 (f := .noat "Hand" "way") rfl)⟩
  have hW : WC K (He.ga K "Works") := ⟨He.cls_ok (c.t.d.fact 85 (f := .cls "Works") rfl), He.noat_ok (c.t.d.fact 96 (f := .noat "Works" "shared") rfl), He.noat_ok (c.t.d.fact 97 (f := .noat "Works" "team") rfl), He.noat_ok (c.t.d.fact 98 (f := .noat "Works" "past") rfl)⟩
  have h__law_reel : Def1 P w K mg base "_law_reel" ["cell", "k"] [] 1 sp_law_reel := def1_of F__law_reel (He.glo_ok KX G (c.t.d.fact 42 (f := .glo "_law_reel") rfl)) (FunD.bindsN (ps := ["cell", "k"]) F__law_reel fun _ _ _ _ _ _ us hl => match us, hl with | [_, _], _ => rfl) (ok__law_reel T F__law_reel)
  have h__law_draw : Def1 P w K mg base "_law_draw" ["reel", "many"] [] 1 sp_law_draw := def1_of F__law_draw (He.glo_ok KX G (c.t.d.fact 43 (f := .glo "_law_draw") rfl)) (FunD.bindsN (ps := ["reel", "many"]) F__law_draw fun _ _ _ _ _ _ us hl => match us, hl with | [_, _], _ => rfl) (ok__law_draw T F__law_draw)
  have h__law_cell : Def1 P w K mg base "_law_cell" ["script", "k"] [] 1 (sp_law_cell K) := def1_of F__law_cell (He.glo_ok KX G (c.t.d.fact 44 (f := .glo "_law_cell") rfl)) (FunD.bindsN (ps := ["script", "k"]) F__law_cell fun _ _ _ _ _ _ us hl => match us, hl with | [_, _], _ => rfl) (ok__law_cell T F__law_cell)
  have h__law_e : Def1 P w K mg base "_law_e" ["reel"] [] 2 sp_law_e := def1_of F__law_e (He.glo_ok KX G (c.t.d.fact 45 (f := .glo "_law_e") rfl)) (FunD.bindsN (ps := ["reel"]) F__law_e fun _ _ _ _ _ _ us hl => match us, hl with | [_], _ => rfl) (ok__law_e T F__law_e h__law_draw)
  have h__law_row : Def1 P w K mg base "_law_row" ["reel", "cells", "rows"] [] 3 sp_law_row := def1_of F__law_row (He.glo_ok KX G (c.t.d.fact 46 (f := .glo "_law_row") rfl)) (FunD.bindsN (ps := ["reel", "cells", "rows"]) F__law_row fun _ _ _ _ _ _ us hl => match us, hl with | [_, _, _], _ => rfl) (ok__law_row T F__law_row h__law_draw h__law_e)
  have h__law_program : Def1 P w K mg base "_law_program" ["script"] [] 4 (sp_law_program K) := def1_of F__law_program (He.glo_ok KX G (c.t.d.fact 47 (f := .glo "_law_program") rfl)) (FunD.bindsN (ps := ["script"]) F__law_program fun _ _ _ _ _ _ us hl => match us, hl with | [_], _ => rfl) (ok__law_program T F__law_program h__law_draw h__law_reel h__law_cell h__law_row)
  have h_number_of : Def1 P w K mg base "number_of" ["word"] [] 1 sp_number_of := def1_of F_number_of (He.glo_ok KX G (c.t.d.fact 11 (f := .glo "number_of") rfl)) (FunD.bindsN (ps := ["word"]) F_number_of fun _ _ _ _ _ _ us hl => match us, hl with | [_], _ => rfl) (ok_number_of T F_number_of)
  have h_box_of : Def1 P w K mg base "box_of" ["word"] [] 1 sp_box_of := def1_of F_box_of (He.glo_ok KX G (c.t.d.fact 12 (f := .glo "box_of") rfl)) (FunD.bindsN (ps := ["word"]) F_box_of fun _ _ _ _ _ _ us hl => match us, hl with | [_], _ => rfl) (ok_box_of T F_box_of)
  have h_plain_of : Def1 P w K mg base "plain_of" ["word"] [] 2 sp_plain_of := def1_of F_plain_of (He.glo_ok KX G (c.t.d.fact 13 (f := .glo "plain_of") rfl)) (FunD.bindsN (ps := ["word"]) F_plain_of fun _ _ _ _ _ _ us hl => match us, hl with | [_], _ => rfl) (ok_plain_of T F_plain_of h_number_of h_box_of)
  have h_worth_of : Def1 P w K mg base "worth_of" ["word"] [] 3 sp_worth_of := def1_of F_worth_of (He.glo_ok KX G (c.t.d.fact 14 (f := .glo "worth_of") rfl)) (FunD.bindsN (ps := ["word"]) F_worth_of fun _ _ _ _ _ _ us hl => match us, hl with | [_], _ => rfl) (ok_worth_of T F_worth_of h_plain_of)
  have hm1 : He.valsB K (He.ga K "FORMS") vForms = true := (He.ba c.more).1
  have hm2 : He.valsB K (He.ga K "READERS") vReaders = true := (He.ba c.more).2
  have tF := c.t.tab 0 rfl
  have tR := c.t.tab 1 rfl
  have TT : Tabs P w K mg base (He.ga K "FORMS") (He.ga K "READERS") (He.ga K "box_of") (He.ga K "number_of") (He.ga K "worth_of") := ⟨
    ⟨_, He.glo_ok KX G (c.t.d.fact 55 (f := .glo "FORMS") rfl), rfl⟩, ⟨_, He.glo_ok KX G (c.t.d.fact 56 (f := .glo "READERS") rfl), rfl⟩,
    fun r hr => (by
      cases r with
      | load b c => exact kdct tF hm1 (q := ("load", .str "bn")) (.head _)
      | store c e => exact kdct tF hm1 (q := ("store", .str "nw")) (.tail _ (.head _))
      | swap b c e => exact kdct tF hm1 (q := ("swap", .str "bnw")) (.tail _ (.tail _ (.head _)))
      | let_ b e => exact kdct tF hm1 (q := ("let", .str "bw")) (.tail _ (.tail _ (.tail _ (.head _))))
      | say e => exact kdct tF hm1 (q := ("say", .str "w")) (.tail _ (.tail _ (.tail _ (.tail _ (.head _)))))
      | go k => exact kdct tF hm1 (q := ("go", .str "n")) (.tail _ (.tail _ (.tail _ (.tail _ (.tail _ (.head _))))))
      | unl _ _ _ _ => exact hr.elim),
    (by rw [show (⟨#[98]⟩ : Str) = "b" by decide +kernel]; exact kdct tR hm2 (q := ("b", .glo "box_of")) (.head _)),
    (by rw [show (⟨#[110]⟩ : Str) = "n" by decide +kernel]; exact kdct tR hm2 (q := ("n", .glo "number_of")) (.tail _ (.head _))),
    (by rw [show (⟨#[119]⟩ : Str) = "w" by decide +kernel]; exact kdct tR hm2 (q := ("w", .glo "worth_of")) (.tail _ (.tail _ (.head _)))),
    fun_ne F_number_of F_box_of (by decide), fun_ne F_worth_of F_box_of (by decide), fun_ne F_worth_of F_number_of (by decide),
    fun f sp e => (by
      unfold rdS at e
      by_cases z1 : f = He.ga K "box_of"
      · rw [if_pos z1] at e
        cases e
        rw [z1]
        exact ⟨_, _, FnOk.mono (ok_box_of T F_box_of) (by decide), F_box_of.kp, (FunD.bindsN (ps := ["word"]) F_box_of fun _ _ _ _ _ _ us hl => match us, hl with | [_], _ => rfl)⟩
      · rw [if_neg z1] at e
        by_cases z2 : f = He.ga K "number_of"
        · rw [if_pos z2] at e
          cases e
          rw [z2]
          exact ⟨_, _, FnOk.mono (ok_number_of T F_number_of) (by decide), F_number_of.kp, (FunD.bindsN (ps := ["word"]) F_number_of fun _ _ _ _ _ _ us hl => match us, hl with | [_], _ => rfl)⟩
        · rw [if_neg z2] at e
          by_cases z3 : f = He.ga K "worth_of"
          · rw [if_pos z3] at e
            cases e
            rw [z3]
            exact ⟨_, _, FnOk.mono (ok_worth_of T F_worth_of h_plain_of) (by decide), F_worth_of.kp, (FunD.bindsN (ps := ["word"]) F_worth_of fun _ _ _ _ _ _ us hl => match us, hl with | [_], _ => rfl)⟩
          · rw [if_neg z3] at e
            cases e)⟩
  have h_unless_of : Def1 P w K mg base "unless_of" ["words"] [] 4 sp_unless_of := def1_of F_unless_of (He.glo_ok KX G (c.t.d.fact 15 (f := .glo "unless_of") rfl)) (FunD.bindsN (ps := ["words"]) F_unless_of fun _ _ _ _ _ _ us hl => match us, hl with | [_], _ => rfl) (ok_unless_of T F_unless_of h_number_of h_worth_of)
  have h_row_of : Def1 P w K mg base "row_of" ["words"] [] 5 sp_row_of := def1_of F_row_of (He.glo_ok KX G (c.t.d.fact 16 (f := .glo "row_of") rfl)) (FunD.bindsN (ps := ["words"]) F_row_of fun _ _ _ _ _ _ us hl => match us, hl with | [_], _ => rfl) (ok_row_of T TT F_row_of h_unless_of)
  have h_cell_of : Def1 P w K mg base "cell_of" ["row"] [] 1 sp_cell_of := def1_of F_cell_of (He.glo_ok KX G (c.t.d.fact 17 (f := .glo "cell_of") rfl)) (FunD.bindsN (ps := ["row"]) F_cell_of fun _ _ _ _ _ _ us hl => match us, hl with | [_], _ => rfl) (ok_cell_of T F_cell_of)
  have h_cells_of : Def1 P w K mg base "cells_of" ["row"] [] 2 sp_cells_of := def1_of F_cells_of (He.glo_ok KX G (c.t.d.fact 18 (f := .glo "cells_of") rfl)) (FunD.bindsN (ps := ["row"]) F_cells_of fun _ _ _ _ _ _ us hl => match us, hl with | [_], _ => rfl) (ok_cells_of T F_cells_of h_number_of)
  have h_take_row : Def1 P w K mg base "take_row" ["hands", "words", "many", "at"] [] 6 sp_take_row := def1_of F_take_row (He.glo_ok KX G (c.t.d.fact 19 (f := .glo "take_row") rfl)) (FunD.bindsN (ps := ["hands", "words", "many", "at"]) F_take_row fun _ _ _ _ _ _ us hl => match us, hl with | [_, _, _, _], _ => rfl) (ok_take_row T F_take_row h_row_of h_cell_of)
  have h_look_at_targets : Def1 P w K mg base "look_at_targets" ["hands"] [] 1 sp_look_at_targets := def1_of F_look_at_targets (He.glo_ok KX G (c.t.d.fact 20 (f := .glo "look_at_targets") rfl)) (FunD.bindsN (ps := ["hands"]) F_look_at_targets fun _ _ _ _ _ _ us hl => match us, hl with | [_], _ => rfl) (ok_look_at_targets T F_look_at_targets)
  have h_read : Def1 P w K mg base "read" ["text"] [] 7 sp_read := def1_of F_read (He.glo_ok KX G (c.t.d.fact 21 (f := .glo "read") rfl)) (FunD.bindsN (ps := ["text"]) F_read fun _ _ _ _ _ _ us hl => match us, hl with | [_], _ => rfl) (ok_read T F_read h_cells_of h_take_row h_look_at_targets)
  have h_worth0 : Def1 P w K mg base "worth_now" ["held", "told"] [] 1 spNo := def1_of F_worth_now (He.glo_ok KX G (c.t.d.fact 22 (f := .glo "worth_now") rfl)) (FunD.bindsN (ps := ["held", "told"]) F_worth_now fun _ _ _ _ _ _ us hl => match us, hl with | [_, _], _ => rfl) (ok_worth0 F_worth_now)
  have h_worth1 : Def1 P w K mg base "worth_now" ["held", "told"] [] 2 sp_worth1 := def1_of F_worth_now (He.glo_ok KX G (c.t.d.fact 22 (f := .glo "worth_now") rfl)) (FunD.bindsN (ps := ["held", "told"]) F_worth_now fun _ _ _ _ _ _ us hl => match us, hl with | [_, _], _ => rfl) (ok_worth1 T F_worth_now h_worth0)
  have h_worth_now : Def1 P w K mg base "worth_now" ["held", "told"] [] 3 sp_worth := def1_of F_worth_now (He.glo_ok KX G (c.t.d.fact 22 (f := .glo "worth_now") rfl)) (FunD.bindsN (ps := ["held", "told"]) F_worth_now fun _ _ _ _ _ _ us hl => match us, hl with | [_, _], _ => rfl) (ok_worth_now T F_worth_now h_worth1)
  have h_is_so : Def1 P w K mg base "is_so" ["held", "sign", "one", "other"] [] 4 sp_is_so := def1_of F_is_so (He.glo_ok KX G (c.t.d.fact 23 (f := .glo "is_so") rfl)) (FunD.bindsN (ps := ["held", "sign", "one", "other"]) F_is_so fun _ _ _ _ _ _ us hl => match us, hl with | [_, _, _, _], _ => rfl) (ok_is_so F_is_so h_worth_now)
  have h_put_in : Def1 P w K mg base "put_in" ["hand", "box", "number"] [] 1 (sp_put_in K) := def1_of F_put_in (He.glo_ok KX G (c.t.d.fact 24 (f := .glo "put_in") rfl)) (FunD.bindsN (ps := ["hand", "box", "number"]) F_put_in fun _ _ _ _ _ _ us hl => match us, hl with | [_, _, _], _ => rfl) (ok_put_in T F_put_in)
  have h_do_own : Def1 P w K mg base "do_own" ["hand", "row"] [] 5 (sp_do_own (He.ga K "Hand")) := def1_of F_do_own (He.glo_ok KX G (c.t.d.fact 25 (f := .glo "do_own") rfl)) (FunD.bindsN (ps := ["hand", "row"]) F_do_own fun _ _ _ _ _ _ us hl => match us, hl with | [_, _], _ => rfl) (ok_do_own T hC F_do_own h_worth_now h_is_so h_put_in)
  have h_lead_on : Def1 P w K mg base "lead_on" ["hand"] [] 6 (sp_lead_on (He.ga K "Hand")) := def1_of F_lead_on (He.glo_ok KX G (c.t.d.fact 26 (f := .glo "lead_on") rfl)) (FunD.bindsN (ps := ["hand"]) F_lead_on fun _ _ _ _ _ _ us hl => match us, hl with | [_], _ => rfl) (ok_lead_on T hC F_lead_on h_do_own)
  have h_do_touch : Def1 P w K mg base "do_touch" ["hand", "shared"] [] 4 (sp_do_touch (He.ga K "Hand")) := def1_of F_do_touch (He.glo_ok KX G (c.t.d.fact 27 (f := .glo "do_touch") rfl)) (FunD.bindsN (ps := ["hand", "shared"]) F_do_touch fun _ _ _ _ _ _ us hl => match us, hl with | [_, _], _ => rfl) (ok_do_touch T hC F_do_touch h_worth_now h_put_in)
  have h_Hand : C8.Mak P w K mg base 1 "Hand" (He.ga K "Hand") (sp_hand_init (He.ga K "Hand")) [] := ⟨_, _, _, [], He.mkr_ok (c.t.d.fact 86 (f := .mkr "Hand") rfl), (ok_hand_init T hC F_Hand___init__), He.glo_ok KX G (c.t.d.fact 53 (f := .glo "Hand") rfl), (FunD.bindsN (ps := ["self", "rows"]) F_Hand___init__ fun _ _ _ _ _ _ us hl => match us, hl with | [_, _], _ => rfl), .nil⟩
  have h_hand_of : Def1 P w K mg base "hand_of" ["team", "number"] [] 1 (sp_hand_of K) := def1_of F_hand_of (He.glo_ok KX G (c.t.d.fact 28 (f := .glo "hand_of") rfl)) (FunD.bindsN (ps := ["team", "number"]) F_hand_of fun _ _ _ _ _ _ us hl => match us, hl with | [_, _], _ => rfl) (ok_hand_of T F_hand_of)
  have h_first_numbers : Def1 P w K mg base "first_numbers" ["many", "numbers"] [] 1 sp_first_numbers := def1_of F_first_numbers (He.glo_ok KX G (c.t.d.fact 29 (f := .glo "first_numbers") rfl)) (FunD.bindsN (ps := ["many", "numbers"]) F_first_numbers fun _ _ _ _ _ _ us hl => match us, hl with | [_, _], _ => rfl) (ok_first_numbers T F_first_numbers)
  have m_turn : C8.Met P w K mg base 7 (He.ga K "Works") "turn" (sp_turn (He.ga K "Works") (He.ga K "Hand")) [] := ⟨_, _, _, [], hW.cl, He.meth_ok (c.t.d.fact 88 (f := .meth "Works" "turn") rfl), (ok_turn T hC hW F_Works_turn h_hand_of h_do_touch h_lead_on), (FunD.bindsN (ps := ["self", "hand"]) F_Works_turn fun _ _ _ _ _ _ us hl => match us, hl with | [_, _], _ => rfl), .nil⟩
  have m_how : C8.Met P w K mg base 2 (He.ga K "Works") "how" (sp_how (He.ga K "Works") (He.ga K "Hand")) [] := ⟨_, _, _, [], hW.cl, He.meth_ok (c.t.d.fact 89 (f := .meth "Works" "how") rfl), (ok_how hC hW F_Works_how h_hand_of), (FunD.bindsN (ps := ["self", "hand"]) F_Works_how fun _ _ _ _ _ _ us hl => match us, hl with | [_, _], _ => rfl), .nil⟩
  have m_counts : C8.Met P w K mg base 1 (He.ga K "Works") "counts" (sp_counts (He.ga K "Works") (He.ga K "Hand")) [] := ⟨_, _, _, [], hW.cl, He.meth_ok (c.t.d.fact 90 (f := .meth "Works" "counts") rfl), (ok_counts T hW F_Works_counts), (FunD.bindsN (ps := ["self"]) F_Works_counts fun _ _ _ _ _ _ us hl => match us, hl with | [_], _ => rfl), .nil⟩
  have okW : FnOk P w K mg base CX0 7 _ _ ["self", "program", "cells"] (sp_works_init (He.ga K "Works") (He.ga K "Hand")) := ok_works_init T hC hW F_Works___init__ h_first_numbers h_Hand h_lead_on
  have mkW := He.mkr_ok (K := K) (c.t.d.fact 87 (f := .mkr "Works") rfl)
  have glW := He.glo_ok KX G (c.t.d.fact 54 (f := .glo "Works") rfl)
  have h_WorksA : C8.Mak P w K mg base 7 "Works" (He.ga K "Works") (sp_works_init (He.ga K "Works") (He.ga K "Hand")) [] := by
    obtain ⟨ds, hv, hb⟩ := FunD.binds1 (ps := ["self", "program", "cells"]) F_Works___init__ 3 1 (by simp [He.DefD.dvs, d_Works___init__]) rfl fun _ _ _ _ _ _ _ us its h1 h2 => match us, its, h1, h2 with | [_, _, _], [_], _, _ => ⟨_, rfl, rfl⟩
    exact ⟨_, _, _, ds, mkW, okW, glW, hb, hv⟩
  have h_WorksD : C8.Mak P w K mg base 7 "Works" (He.ga K "Works") (sp_works_init (He.ga K "Works") (He.ga K "Hand")) [.non] := by
    obtain ⟨ds, hv, hb⟩ := FunD.binds1 (ps := ["self", "program", "cells"]) F_Works___init__ 2 0 (by simp [He.DefD.dvs, d_Works___init__]) rfl fun _ _ _ _ _ _ _ us its h1 h2 => match us, its, h1, h2 with | [_, _], [_], _, _ => ⟨_, rfl, rfl⟩
    exact ⟨_, _, _, ds, mkW, okW, glW, hb, hv⟩
  have h_turns_of : Def1 P w K mg base "turns_of" ["works", "order"] [] 8 (sp_turns_of (He.ga K "Works") (He.ga K "Hand")) := def1_of F_turns_of (He.glo_ok KX G (c.t.d.fact 30 (f := .glo "turns_of") rfl)) (FunD.bindsN (ps := ["works", "order"]) F_turns_of fun _ _ _ _ _ _ us hl => match us, hl with | [_, _], _ => rfl) (ok_turns_of T F_turns_of m_turn)
  have h_web_of : Def1 P w K mg base "web_of" ["program", "order", "cells"] [.non] 9 sp_web_of := by
    obtain ⟨ds, hv, hb⟩ := FunD.binds1 (ps := ["program", "order", "cells"]) F_web_of 2 0 (by simp [He.DefD.dvs, d_web_of]) rfl fun _ _ _ _ _ _ _ us its h1 h2 => match us, its, h1, h2 with | [_, _], [_], _, _ => ⟨_, rfl, rfl⟩
    exact def1_ofD F_web_of (He.glo_ok KX G (c.t.d.fact 31 (f := .glo "web_of") rfl)) hb hv (ok_web_of T F_web_of h_WorksA h_turns_of)
  have h_touches_of : Def1 P w K mg base "touches_of" ["program", "order", "cells"] [.non] 9 sp_touches_of := by
    obtain ⟨ds, hv, hb⟩ := FunD.binds1 (ps := ["program", "order", "cells"]) F_touches_of 2 0 (by simp [He.DefD.dvs, d_touches_of]) rfl fun _ _ _ _ _ _ _ us its h1 h2 => match us, its, h1, h2 with | [_, _], [_], _, _ => ⟨_, rfl, rfl⟩
    exact def1_ofD F_touches_of (He.glo_ok KX G (c.t.d.fact 32 (f := .glo "touches_of") rfl)) hb hv (ok_touches_of T F_touches_of h_WorksA h_turns_of m_counts)
  have h_names : Def1 P w K mg base "names" ["web"] [] 1 sp_names := def1_of F_names (He.glo_ok KX G (c.t.d.fact 33 (f := .glo "names") rfl)) (FunD.bindsN (ps := ["web"]) F_names fun _ _ _ _ _ _ us hl => match us, hl with | [_], _ => rfl) (ok_names T F_names)
  have h_touches_meet : Def1 P w K mg base "touches_meet" ["one", "other"] [] 1 sp_touches_meet := def1_of F_touches_meet (He.glo_ok KX G (c.t.d.fact 34 (f := .glo "touches_meet") rfl)) (FunD.bindsN (ps := ["one", "other"]) F_touches_meet fun _ _ _ _ _ _ us hl => match us, hl with | [_, _], _ => rfl) (ok_touches_meet F_touches_meet)
  have h_is_step : Def1 P w K mg base "is_step" ["web", "i", "j"] [] 2 sp_is_step := def1_of F_is_step (He.glo_ok KX G (c.t.d.fact 35 (f := .glo "is_step") rfl)) (FunD.bindsN (ps := ["web", "i", "j"]) F_is_step fun _ _ _ _ _ _ us hl => match us, hl with | [_, _, _], _ => rfl) (ok_is_step F_is_step h_touches_meet)
  have h_counts_of : Def1 P w K mg base "counts_of" ["hands", "web"] [] 1 sp_counts_of := def1_of F_counts_of (He.glo_ok KX G (c.t.d.fact 40 (f := .glo "counts_of") rfl)) (FunD.bindsN (ps := ["hands", "web"]) F_counts_of fun _ _ _ _ _ _ us hl => match us, hl with | [_, _], _ => rfl) (ok_counts_of T F_counts_of)
  have h_stands_of : Def1 P w K mg base "stands_of" ["web", "order"] [] 1 sp_stands_of := def1_of F_stands_of (He.glo_ok KX G (c.t.d.fact 37 (f := .glo "stands_of") rfl)) (FunD.bindsN (ps := ["web", "order"]) F_stands_of fun _ _ _ _ _ _ us hl => match us, hl with | [_, _], _ => rfl) (ok_stands_of T F_stands_of)
  have h_same_run : Def1 P w K mg base "same_run" ["web", "order"] [] 3 sp_same_run := def1_of F_same_run (He.glo_ok KX G (c.t.d.fact 38 (f := .glo "same_run") rfl)) (FunD.bindsN (ps := ["web", "order"]) F_same_run fun _ _ _ _ _ _ us hl => match us, hl with | [_, _], _ => rfl) (ok_same_run T F_same_run h_stands_of h_is_step)
  have h_looked_back : Def1 P w K mg base "looked_back" ["web", "called", "table", "j"] [] 3 sp_looked_back := def1_of F_looked_back (He.glo_ok KX G (c.t.d.fact 36 (f := .glo "looked_back") rfl)) (FunD.bindsN (ps := ["web", "called", "table", "j"]) F_looked_back fun _ _ _ _ _ _ us hl => match us, hl with | [_, _, _, _], _ => rfl) (ok_looked_back T F_looked_back h_is_step)
  have h_notes : Def1 P w K mg base "notes" ["web"] [] 4 sp_notes := def1_of F_notes (He.glo_ok KX G (c.t.d.fact 39 (f := .glo "notes") rfl)) (FunD.bindsN (ps := ["web"]) F_notes fun _ _ _ _ _ _ us hl => match us, hl with | [_], _ => rfl) (ok_notes T F_notes h_names h_looked_back)
  have h_record_of : Def1 P w K mg base "record_of" ["hands", "web"] [] 5 sp_record_of := def1_of F_record_of (He.glo_ok KX G (c.t.d.fact 41 (f := .glo "record_of") rfl)) (FunD.bindsN (ps := ["hands", "web"]) F_record_of fun _ _ _ _ _ _ us hl => match us, hl with | [_, _], _ => rfl) (ok_record_of F_record_of h_counts_of h_notes)
  have h_is_touch : Def1 P w K mg base "is_touch" ["counts", "hand", "k"] [] 1 sp_is_touch := def1_of F_is_touch (He.glo_ok KX G (c.t.d.fact 0 (f := .glo "is_touch") rfl)) (FunD.bindsN (ps := ["counts", "hand", "k"]) F_is_touch fun _ _ _ _ _ _ us hl => match us, hl with | [_, _, _], _ => rfl) (ok_is_touch T F_is_touch)
  have h_need_record : Def1 P w K mg base "need_record" ["record"] [] 2 sp_need_record := def1_of F_need_record (He.glo_ok KX G (c.t.d.fact 1 (f := .glo "need_record") rfl)) (FunD.bindsN (ps := ["record"]) F_need_record fun _ _ _ _ _ _ us hl => match us, hl with | [_], _ => rfl) (ok_need_record F_need_record h_is_touch)
  have h_firsts_of : Def1 P w K mg base "firsts_of" ["record"] [] 1 sp_firsts_of := def1_of F_firsts_of (He.glo_ok KX G (c.t.d.fact 2 (f := .glo "firsts_of") rfl)) (FunD.bindsN (ps := ["record"]) F_firsts_of fun _ _ _ _ _ _ us hl => match us, hl with | [_], _ => rfl) (ok_firsts_of F_firsts_of)
  have h_waits_for : Def1 P w K mg base "waits_for" ["firsts", "now", "hand"] [] 1 (sp_waits_for K) := def1_of F_waits_for (He.glo_ok KX G (c.t.d.fact 3 (f := .glo "waits_for") rfl)) (FunD.bindsN (ps := ["firsts", "now", "hand"]) F_waits_for fun _ _ _ _ _ _ us hl => match us, hl with | [_, _, _], _ => rfl) (ok_waits_for F_waits_for)
  have h_ready : Def1 P w K mg base "ready" ["counts", "firsts", "now"] [] 2 (sp_ready K) := def1_of F_ready (He.glo_ok KX G (c.t.d.fact 4 (f := .glo "ready") rfl)) (FunD.bindsN (ps := ["counts", "firsts", "now"]) F_ready fun _ _ _ _ _ _ us hl => match us, hl with | [_, _, _], _ => rfl) (ok_ready T F_ready h_waits_for)
  have h_keeps : Def1 P w K mg base "keeps" ["record", "order"] [] 3 sp_keeps := def1_of F_keeps (He.glo_ok KX G (c.t.d.fact 5 (f := .glo "keeps") rfl)) (FunD.bindsN (ps := ["record", "order"]) F_keeps fun _ _ _ _ _ _ us hl => match us, hl with | [_, _], _ => rfl) (ok_keeps T F_keeps h_need_record h_firsts_of h_waits_for)
  have h_first_order : Def1 P w K mg base "first_order" ["record"] [] 3 sp_first_order := def1_of F_first_order (He.glo_ok KX G (c.t.d.fact 6 (f := .glo "first_order") rfl)) (FunD.bindsN (ps := ["record"]) F_first_order fun _ _ _ _ _ _ us hl => match us, hl with | [_], _ => rfl) (ok_first_order T F_first_order h_need_record h_firsts_of h_ready)
  have h_next_layer : Def1 P w K mg base "next_layer" ["counts", "firsts", "here"] [] 3 sp_next_layer := def1_of F_next_layer (He.glo_ok KX G (c.t.d.fact 7 (f := .glo "next_layer") rfl)) (FunD.bindsN (ps := ["counts", "firsts", "here"]) F_next_layer fun _ _ _ _ _ _ us hl => match us, hl with | [_, _, _], _ => rfl) (ok_next_layer F_next_layer h_ready)
  have h_layers : Def1 P w K mg base "layers" ["record", "most"] [] 4 sp_layers := def1_of F_layers (He.glo_ok KX G (c.t.d.fact 8 (f := .glo "layers") rfl)) (FunD.bindsN (ps := ["record", "most"]) F_layers fun _ _ _ _ _ _ us hl => match us, hl with | [_, _], _ => rfl) (ok_layers T F_layers h_need_record h_firsts_of h_next_layer)
  have h_how_many_cuts : Def1 P w K mg base "how_many_cuts" ["record", "most"] [.int 2000] 5 (sp_count fun cs N => manyN cs N cs.sum) := by
    obtain ⟨ds, hv, hb⟩ := FunD.binds1 (ps := ["record", "most"]) F_how_many_cuts 1 0 (by simp [He.DefD.dvs, d_how_many_cuts]) rfl fun _ _ _ _ _ _ _ us its h1 h2 => match us, its, h1, h2 with | [_], [_], _, _ => ⟨_, rfl, rfl⟩
    exact def1_ofD F_how_many_cuts (He.glo_ok KX G (c.t.d.fact 9 (f := .glo "how_many_cuts") rfl)) hb hv (ok_how_many_cuts F_how_many_cuts h_layers)
  have h_how_many_orders : Def1 P w K mg base "how_many_orders" ["record", "most"] [.int 2000] 5 (sp_count fun cs N => (getA (layerL cs N cs.sum) cs).getD 0) := by
    obtain ⟨ds, hv, hb⟩ := FunD.binds1 (ps := ["record", "most"]) F_how_many_orders 1 0 (by simp [He.DefD.dvs, d_how_many_orders]) rfl fun _ _ _ _ _ _ _ us its h1 h2 => match us, its, h1, h2 with | [_], [_], _, _ => ⟨_, rfl, rfl⟩
    exact def1_ofD F_how_many_orders (He.glo_ok KX G (c.t.d.fact 10 (f := .glo "how_many_orders") rfl)) hb hv (ok_how_many_orders F_how_many_orders h_layers)
  have h__law_run : Def1 P w K mg base "_law_run" ["program", "reel", "most"] [] 9 sp_law_run := def1_of F__law_run (He.glo_ok KX G (c.t.d.fact 48 (f := .glo "_law_run") rfl)) (FunD.bindsN (ps := ["program", "reel", "most"]) F__law_run fun _ _ _ _ _ _ us hl => match us, hl with | [_, _, _], _ => rfl) (ok__law_run T F__law_run h__law_draw h_WorksD m_how m_turn)
  have h__law_orders : Def1 P w K mg base "_law_orders" ["counts"] [] 1 sp_law_orders := def1_of F__law_orders (He.glo_ok KX G (c.t.d.fact 49 (f := .glo "_law_orders") rfl)) (FunD.bindsN (ps := ["counts"]) F__law_orders fun _ _ _ _ _ _ us hl => match us, hl with | [_], _ => rfl) (ok__law_orders T F__law_orders)
  have h__law_places : Def1 P w K mg base "_law_places" ["web", "order"] [] 1 sp_law_places := def1_of F__law_places (He.glo_ok KX G (c.t.d.fact 50 (f := .glo "_law_places") rfl)) (FunD.bindsN (ps := ["web", "order"]) F__law_places fun _ _ _ _ _ _ us hl => match us, hl with | [_, _], _ => rfl) (ok__law_places T F__law_places)
  have h__law_kept : Def1 P w K mg base "_law_kept" ["web", "places"] [] 1 sp_law_kept := def1_of F__law_kept (He.glo_ok KX G (c.t.d.fact 51 (f := .glo "_law_kept") rfl)) (FunD.bindsN (ps := ["web", "places"]) F__law_kept fun _ _ _ _ _ _ us hl => match us, hl with | [_, _], _ => rfl) (ok__law_kept T F__law_kept)
  have okLaw : FnOk P w K mg base CX0 10 _ _ ["script"] (sp_law K) := ok_law T F_law h_read h__law_program h__law_reel h__law_cell h__law_draw h__law_run h_web_of h_touches_of h_record_of h__law_orders h__law_places h__law_kept h_keeps h_same_run h_first_order h_how_many_orders h_how_many_cuts
  exact okLaw
end K72
open PySem PySem.W PySem.Calls PyProof.Rows
theorem PySem.Challenge.cw_fewnotes_k72_whole_orders_and_runs_holds : PySem.Challenge.rw_fewnotes_k72_whole_orders_and_runs.Holds := by
  w_on; o_law
  refine HandSHeadRun.head_any (r := K72.R) (q := view K72.R.prog [88]) (H := K72.hk) (ob := K72.hob) (M := 6000) (loose := K72.hloose) (d := HandSHeadRun.topDef K72.R.prog 88) (kwd := []) K72.hob_eq
    (by kernel_rfl) (fun s => by kernel_rfl) K72.hrun (by kernel_rfl) (by kernel_rfl) (by kernel_rfl) (by rfl) (by first | assumption | decide +kernel) (by decide +kernel) ⟨rfl, rfl, rfl, rfl, rfl, by decide +kernel⟩ ?hw ?hc
  case hw => w_witness2
  case hc =>
    refine L2.walk_ofE (l := PySem.Challenge.rw_fewnotes_k72_whole_orders_and_runs) (n := 63) (k := 10) (x := "script") (CX := L2.CX0) rfl (by decide) (by kernel_rfl) ⟨rfl, by decide, by decide⟩ ?F (fun _ _ _ _ z => z)
    intro w mg fa h Y G hmg0
    obtain ⟨K, KX, c⟩ := Y
    have hmg : mg ("law" : PySem.Str) = some (.ref fa) := by
      have e : (HandSHeadRun.topDef K72.R.prog 88).name = ("law" : PySem.Str) := by kernel_rfl
      rw [← e]
      exact hmg0
    obtain ⟨fd, hb, hF⟩ := K72.facts (P := (PySem.Challenge.rw_fewnotes_k72_whole_orders_and_runs).prog) (w := w) KX G hmg c
    exact ⟨K, fd, K72.sp_law K, KX, hb, fun H a ns hl _ hS => ⟨a, ns, rfl, hS, fun _ => rfl⟩, hF⟩
